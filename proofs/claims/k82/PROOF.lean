import PyProof.Rows.All
import Wide.All
import OpenK.AllK
import Wide.FinOn
import HandS.ForMost
import HandS.Exc
import HandS.ExcOwn
import HandS.TryOnly
import HandS.TryElse
import HandS.TryMany
import HandS.IsInst
import HandS.Zip
import HandS.SetKeys
import HandS.Deep
import HandS.SortKw
import HandS.Flow
import HandS.WordsExc
import HandS.Wide
import HandS.Lambda
import HandS.Nested
import HandS.NestedK
import KE.KDictKeyed
import KE.SortKeyHeap
import HandS.Text
import KE.KDictCopyH
import KE.KDictList
import HandS.More
import KE.LtSeq
import KE.LtData
import KE.KDictSum
import HandS.SetFor
import KE.DataMinMax
import HandS.HeadHook4
import HandS.HeadWalk
import HandS.Defaults
import KE.KDictDisplayH
import HandS.Head2
import PySem.Challenge.RW_reasonkeep_k82_of_as_few_the_first
set_option Elab.async false
set_option linter.all false
set_option maxRecDepth 100000
set_option maxHeartbeats 4000000
/-! TL1: values as trees over the hand layer: T, the view G, how they lie in Hp (TV, DR, RG), views grow (Ext). -/
namespace TL
open PySem PySem.Spec L2

/-- a value as a tree: tuples, lists and dicts that nobody changes any more are told whole -/
inductive T where
  | non | bl (b : Bool) | int (i : Int) | str (x : Str) | ref (a : Addr) | ty (n : String)
  | tup (ts : List T) | lst (ts : List T) | dct (kvs : List (T × T)) | scr (ns : List Int)

/-- a lambda made at run time -/
structure LF where
  qual : Str
  params : Arguments
  body : Expr
  scope : Scope
  cl : List (Str × Addr)
  c : Addr
def lamO (f : Addr) (L : LF) : HO := .ext fun h => ∃ pm ctv : Value, h.get? f = some (PySem.W.kla_obj "<lambda>" L.qual L.params L.body L.scope L.cl pm L.c ctv)
/-- what may still be changed; a code object's table; a def, a lambda made at run time -/
inductive GO where
  | lst (ts : List T) | dct (kvs : List (T × T)) | ins (C : Addr) (fs : List (Str × T)) | tbl (nm : Nat → Nat → Str) | fn (F : NdefX.NF) | lam (L : LF)
abbrev G := Addr → Option GO
def gput (g : G) (a : Addr) (o : GO) : G := fun b => if b = a then some o else g b
def gdel (g : G) (a : Addr) : G := fun b => if b = a then none else g b
theorem gput_same {g : G} {a : Addr} {o : GO} : gput g a o a = some o := by unfold gput; rw [if_pos rfl]
theorem gput_ne {g : G} {a b : Addr} {o : GO} (h : b ≠ a) : gput g a o b = g b := by unfold gput; rw [if_neg h]
theorem gdel_same {g : G} {a : Addr} : gdel g a a = none := by unfold gdel; rw [if_pos rfl]
theorem gdel_ne {g : G} {a b : Addr} (h : b ≠ a) : gdel g a b = g b := by unfold gdel; rw [if_neg h]
theorem gput_put {g : G} {a : Addr} {o u : GO} : gput (gput g a o) a u = gput g a u := by
  funext b; unfold gput; split <;> rfl
theorem gdel_put {g : G} {a : Addr} {o : GO} (h : g a = none) : gdel (gput g a o) a = g := by
  funext b; unfold gdel gput; split
  · rename_i e; subst e; exact h.symm
  · rfl

/-! ### how trees lie -/
/-- a key of a dict with tuple keys -/
def nkOf : T → Option NestedKey
  | .non => some .none
  | .int i => some (.num i)
  | .str x => some (.text x)
  | .tup ts => (nks ts).map .tup
  | _ => none
where
  nks : List T → Option (List NestedKey)
  | [] => some []
  | t :: ts => match nkOf t, nks ts with
    | some k, some ks => some (k :: ks)
    | _, _ => none

def keyT : Key → T
  | .inl i => .int i
  | .inr x => .str x

/-- the dict at a with tuple keys, by its entries -/
def RawN (P : Program) (w : World) (a : Addr) (xs : List (NestedKey × Addr × Value)) (h : Heap) : Prop :=
  ∃ o es ep, h.get? a = some o ∧ o.ExactDict ∧ o.data = .dict es ep ∧ es.toList = xs.map (entryOfKey (nestedKind P w)) ∧ (xs.map (·.1)).Nodup
/-- the object of such a dict -/
def DN (P : Program) (w : World) (a : Addr) (xs : List (NestedKey × Addr × Value)) : HO :=
  .ext fun h => RawN P w a xs h ∧ xs.length ≤ sizeLine ∧ (a == sysModules) = false

section
variable (P : Program) (w : World) (K : PySem.W.Frag) (g : G) (H : Hp)
mutual
inductive TV : T → V → Prop
  | non : TV .non .non
  | bl {b} : TV (.bl b) (.bl b)
  | int {i} : TV (.int i) (.int i)
  | str {x} : TV (.str x) (.str x)
  | ref {a} : TV (.ref a) (.ref a)
  | ty {n} : TV (.ty n) (.ty n)
  | tup {a ts xs} : g a = none → Rd H a (.tup xs) → TVs ts xs → TV (.tup ts) (.ref a)
  | lst {a ts xs} : g a = none → Rd H a (.lst xs) → TVs ts xs → TV (.lst ts) (.ref a)
  | dct {a u kvs} : g a = none → Rd H a u → DR a u kvs → TV (.dct kvs) (.ref a)
  | scr {a ns} : g a = none → Rd H a (.lst (ns.map V.int)) → TV (.scr ns) (.ref a)
  | scrK {a ns} : (∃ (o : Obj) (its : Array Value) (n : Nat), K.lookup a = some o ∧ o.cls = .type "list" ∧ o.dict = none ∧ o.data = .seq its n ∧ its.size ≤ sizeLine ∧ Vals (ns.map V.int) its.toList) → TV (.scr ns) (.ref a)
inductive TVs : List T → List V → Prop
  | nil : TVs [] []
  | cons {t v ts vs} : TV t v → TVs ts vs → TVs (t :: ts) (v :: vs)
inductive DR : Addr → HO → List (T × T) → Prop
  | k {a ks kvs} : KVs kvs ks → DR a (.dK ks) kvs
  | n {a xs kvs} : NVs kvs xs → DR a (DN P w a xs) kvs
inductive KVs : List (T × T) → List (Key × V) → Prop
  | nil : KVs [] []
  | cons {k t v kvs ks} : TV t v → KVs kvs ks → KVs ((keyT k, t) :: kvs) ((k, v) :: ks)
inductive NVs : List (T × T) → List (NestedKey × Addr × Value) → Prop
  | nil : NVs [] []
  | cons {kt nk b t v u kvs xs} : nkOf kt = some nk → TV kt (.ref b) → nk.depth ≤ 8 → RelV v u → TV t v → NVs kvs xs → NVs ((kt, t) :: kvs) ((nk, b, u) :: xs)
end
end

section
variable {P : Program} {w : World} {K : PySem.W.Frag} {g g' : G} {H H' : Hp}
/-- the frozen stays readable -/
def Stay (g : G) (H : Hp) (g' : G) (H' : Hp) : Prop := ∀ b u, g b = none → Rd H b u → g' b = none ∧ Rd H' b u
mutual
theorem TV.mono (m : Stay g H g' H') : ∀ {t v}, TV P w K g H t v → TV P w K g' H' t v
  | _, _, .non => .non
  | _, _, .bl => .bl
  | _, _, .int => .int
  | _, _, .str => .str
  | _, _, .ref => .ref
  | _, _, .ty => .ty
  | _, _, .tup h1 h2 h3 => .tup (m _ _ h1 h2).1 (m _ _ h1 h2).2 (TVs.mono m h3)
  | _, _, .lst h1 h2 h3 => .lst (m _ _ h1 h2).1 (m _ _ h1 h2).2 (TVs.mono m h3)
  | _, _, .dct h1 h2 h3 => .dct (m _ _ h1 h2).1 (m _ _ h1 h2).2 (DR.mono m h3)
  | _, _, .scr h1 h2 => .scr (m _ _ h1 h2).1 (m _ _ h1 h2).2
  | _, _, .scrK h => .scrK h
theorem TVs.mono (m : Stay g H g' H') : ∀ {t v}, TVs P w K g H t v → TVs P w K g' H' t v
  | _, _, .nil => .nil
  | _, _, .cons h1 h2 => .cons (TV.mono m h1) (TVs.mono m h2)
theorem DR.mono (m : Stay g H g' H') : ∀ {a u kvs}, DR P w K g H a u kvs → DR P w K g' H' a u kvs
  | _, _, _, .k h => .k (KVs.mono m h)
  | _, _, _, .n h => .n (NVs.mono m h)
theorem KVs.mono (m : Stay g H g' H') : ∀ {a u}, KVs P w K g H a u → KVs P w K g' H' a u
  | _, _, .nil => .nil
  | _, _, .cons h1 h2 => .cons (TV.mono m h1) (KVs.mono m h2)
theorem NVs.mono (m : Stay g H g' H') : ∀ {a u}, NVs P w K g H a u → NVs P w K g' H' a u
  | _, _, .nil => .nil
  | _, _, .cons h1 h2 h3 h4 h5 h6 => .cons h1 (TV.mono m h2) h3 h4 (TV.mono m h5) (NVs.mono m h6)
end
theorem Stay.refl : Stay g H g H := fun _ _ h1 h2 => ⟨h1, h2⟩
theorem Stay.trans {g2 : G} {H2 : Hp} (a : Stay g H g' H') (b : Stay g' H' g2 H2) : Stay g H g2 H2 := fun c u h1 h2 => b c u (a c u h1 h2).1 (a c u h1 h2).2

theorem TVs.len : ∀ {ts : List T} {vs : List V}, TVs P w K g H ts vs → ts.length = vs.length
  | _, _, .nil => rfl
  | _, _, .cons _ h => by rw [List.length_cons, List.length_cons, TVs.len h]
theorem TVs.get : ∀ {ts : List T} {vs : List V} {i : Nat} {t : T}, TVs P w K g H ts vs → ts[i]? = some t → ∃ v, vs[i]? = some v ∧ TV P w K g H t v
  | _, _, _, _, .nil, e => by simp at e
  | _, _, 0, _, .cons r _, e => by simp at e; subst e; exact ⟨_, rfl, r⟩
  | _, _, i + 1, t, .cons _ r, e => by
    obtain ⟨v, h1, h2⟩ := TVs.get (i := i) (t := t) r (by simpa using e)
    exact ⟨v, by simpa using h1, h2⟩
theorem TVs.getV : ∀ {ts : List T} {vs : List V} {i : Nat} {v : V}, TVs P w K g H ts vs → vs[i]? = some v → ∃ t, ts[i]? = some t ∧ TV P w K g H t v
  | _, _, _, _, .nil, e => by simp at e
  | _, _, 0, _, .cons r _, e => by simp at e; subst e; exact ⟨_, rfl, r⟩
  | _, _, i + 1, t, .cons _ r, e => by
    obtain ⟨v, h1, h2⟩ := TVs.getV (i := i) (v := t) r (by simpa using e)
    exact ⟨v, by simpa using h1, h2⟩
theorem TVs.app : ∀ {ts us : List T} {vs ws : List V}, TVs P w K g H ts vs → TVs P w K g H us ws → TVs P w K g H (ts ++ us) (vs ++ ws)
  | _, _, _, _, .nil, s => s
  | _, _, _, _, .cons r t, s => .cons r (TVs.app t s)
theorem TVs.take : ∀ {ts : List T} {vs : List V} (n : Nat), TVs P w K g H ts vs → TVs P w K g H (ts.take n) (vs.take n)
  | _, _, 0, _ => .nil
  | _, _, _ + 1, .nil => .nil
  | _, _, n + 1, .cons r t => .cons r (TVs.take n t)
theorem TVs.drop : ∀ {ts : List T} {vs : List V} (n : Nat), TVs P w K g H ts vs → TVs P w K g H (ts.drop n) (vs.drop n)
  | _, _, 0, r => r
  | _, _, _ + 1, .nil => .nil
  | _, _, n + 1, .cons _ t => TVs.drop n t
theorem TVs.set {x : T} {u : V} (r : TV P w K g H x u) : ∀ {ts : List T} {vs : List V} (i : Nat), TVs P w K g H ts vs → TVs P w K g H (ts.set i x) (vs.set i u)
  | _, _, _, .nil => .nil
  | _, _, 0, .cons _ t => .cons r t
  | _, _, i + 1, .cons q t => .cons q (TVs.set r i t)

/-! ### the view -/
def FVs (P : Program) (w : World) (K : PySem.W.Frag) (g : G) (H : Hp) : List (Str × T) → List (Str × V) → Prop := Paired fun p q => p.1 = q.1 ∧ TV P w K g H p.2 q.2
inductive RO (P : Program) (w : World) (K : PySem.W.Frag) (g : G) (H : Hp) (a : Addr) : GO → Prop
  | lst {ts xs} : H a = some (.lst xs) → TVs P w K g H ts xs → RO P w K g H a (.lst ts)
  | dct {kvs u} : H a = some u → DR P w K g H a u kvs → RO P w K g H a (.dct kvs)
  | ins {C fs dx fv} : H a = some (.ins C dx fv) → FVs P w K g H fs fv → RO P w K g H a (.ins C fs)
  | tbl {nm ps} : H a = some (.tbl ps) → TriplesOk ps.toList → (∀ pos cv, codeAmong pos ps.toList = some cv → ∃ c, cv = .ref c ∧ g c = none ∧ Rd H c (LamX.CodeO c (nm pos.line pos.col))) → RO P w K g H a (.tbl nm)
  | fn {F} : H a = some (NdefX.FnO a F) → g F.c = none → Rd H F.c (LamX.CodeO F.c F.qual) → RO P w K g H a (.fn F)
  | lam {L} : H a = some (lamO a L) → g L.c = none → Rd H L.c (LamX.CodeO L.c L.qual) → RO P w K g H a (.lam L)
/-- the view g of the heap H -/
def RG (P : Program) (w : World) (K : PySem.W.Frag) (g : G) (H : Hp) : Prop := ∀ a o, g a = some o → RO P w K g H a o
theorem FVs.mono (m : Stay g H g' H') {fs fv} (h : FVs P w K g H fs fv) : FVs P w K g' H' fs fv := Paired.mapP h fun _ _ z => ⟨z.1, z.2.mono m⟩
theorem RO.mono (m : Stay g H g' H') {a : Addr} {o : GO} (e : H' a = H a) (h : RO P w K g H a o) : RO P w K g' H' a o := by
  cases h with
  | lst h1 h2 => exact .lst (e.trans h1) (h2.mono m)
  | dct h1 h2 => exact .dct (e.trans h1) (h2.mono m)
  | ins h1 h2 => exact .ins (e.trans h1) (h2.mono m)
  | tbl h1 h2 h3 => exact .tbl (e.trans h1) h2 fun pos cv z => let ⟨c, z1, z2, z3⟩ := h3 pos cv z; ⟨c, z1, (m _ _ z2 z3).1, (m _ _ z2 z3).2⟩
  | fn h1 h2 h3 => exact .fn (e.trans h1) (m _ _ h2 h3).1 (m _ _ h2 h3).2
  | lam h1 h2 h3 => exact .lam (e.trans h1) (m _ _ h2 h3).1 (m _ _ h2 h3).2

/-- as it was, or locked for good -/
def LK (u : HO) (o : Option HO) : Prop := o = some u ∨ (Mut (some u) ∧ ∃ od, o = some (.frz od u))
/-- behind a step: what is not in the view is as it was (or locked for good) and still not in it -/
def Ext (g : G) (H : Hp) (g' : G) (H' : Hp) : Prop := ∀ b o, g b = none → H b = some o → g' b = none ∧ LK o (H' b)
theorem Ext.refl : Ext g H g H := fun _ _ h1 h2 => ⟨h1, .inl h2⟩
theorem Ext.trans {g2 : G} {H2 : Hp} (a : Ext g H g' H') (b : Ext g' H' g2 H2) : Ext g H g2 H2 := fun c o h1 h2 => by
  obtain ⟨x1, x2⟩ := a c o h1 h2
  rcases x2 with x2 | ⟨m, od, x2⟩
  · exact b c o x1 x2
  · obtain ⟨y1, y2⟩ := b c _ x1 x2
    rcases y2 with y2 | ⟨m2, _⟩
    · exact ⟨y1, .inr ⟨m, od, y2⟩⟩
    · exact m2.elim
theorem Ext.stay (m : Ext g H g' H') : Stay g H g' H' := fun b u h1 h2 => by
  rcases h2 with h2 | ⟨o, h2⟩
  · obtain ⟨x1, x2⟩ := m b _ h1 h2
    rcases x2 with x2 | ⟨_, od, x2⟩
    · exact ⟨x1, .inl x2⟩
    · exact ⟨x1, .inr ⟨od, x2⟩⟩
  · obtain ⟨x1, x2⟩ := m b _ h1 h2
    rcases x2 with x2 | ⟨m2, _⟩
    · exact ⟨x1, .inr ⟨o, x2⟩⟩
    · exact m2.elim
/-- a smaller view -/
def Sub (g' g : G) : Prop := ∀ a o, g' a = some o → g a = some o
theorem Sub.refl : Sub g g := fun _ _ h => h
theorem Sub.trans {g2 : G} (a : Sub g2 g') (b : Sub g' g) : Sub g2 g := fun c o h => b c o (a c o h)
theorem Sub.none (s : Sub g' g) {a : Addr} (h : g a = none) : g' a = none := by
  cases q : g' a with
  | none => rfl
  | some o => rw [s a o q] at h; cases h
theorem Sub.ext (s : Sub g' g) : Ext g H g' H := fun b o h1 h2 => ⟨s.none h1, .inl h2⟩
theorem sub_del {a : Addr} : Sub (gdel g a) g := fun b o h => by
  unfold gdel at h; split at h
  · cases h
  · exact h
theorem sub_put {a : Addr} {o : GO} (h : g a = none) : Sub g (gput g a o) := fun b u e => by
  rw [gput_ne (fun q => by subst q; rw [h] at e; cases e)]; exact e
theorem RG.sub (r : RG P w K g H) (s : Sub g' g) : RG P w K g' H := fun a o e => (r a o (s a o e)).mono (Ext.stay s.ext) rfl
theorem RG.ne (r : RG P w K g H) {a : Addr} {o : GO} (e : g a = some o) : H a ≠ none := by
  intro z
  cases r a o e with
  | lst h _ => rw [z] at h; cases h
  | dct h _ => rw [z] at h; cases h
  | ins h _ => rw [z] at h; cases h
  | tbl h _ _ => rw [z] at h; cases h
  | fn h _ _ => rw [z] at h; cases h
  | lam h _ _ => rw [z] at h; cases h
theorem RG.fresh (r : RG P w K g H) {a : Addr} (e : H a = none) : g a = none := by
  cases q : g a with
  | none => rfl
  | some o => exact absurd e (r.ne q)
/-- a new object that is not in the view -/
theorem Ext.new {a : Addr} {o : HO} (e : H a = none) : Ext g H g (upd H a o) := fun b u h1 h2 => ⟨h1, .inl (by rw [upd_ne (ne_of_none h2 e)]; exact h2)⟩
theorem RG.new (r : RG P w K g H) {a : Addr} {o : HO} (e : H a = none) : RG P w K g (upd H a o) := fun b u q =>
  (r b u q).mono (Ext.stay (Ext.new e)) (upd_ne fun z => by subst z; exact r.ne q e)
/-- a new object, in the view -/
theorem Ext.newG {a : Addr} {o : HO} {u : GO} (e : H a = none) : Ext g H (gput g a u) (upd H a o) := fun b v h1 h2 => by
  have n := ne_of_none h2 e
  exact ⟨by rw [gput_ne n]; exact h1, .inl (by rw [upd_ne n]; exact h2)⟩
theorem RG.newG (r : RG P w K g H) {a : Addr} {o : HO} {u : GO} (e : H a = none) (h : RO P w K (gput g a u) (upd H a o) a u) : RG P w K (gput g a u) (upd H a o) := fun b v q => by
  by_cases n : b = a
  · subst n; rw [gput_same] at q; cases q; exact h
  · rw [gput_ne n] at q
    exact (r b v q).mono (Ext.stay (Ext.newG e)) (upd_ne n)
/-- an object of the view is changed -/
theorem Ext.put {a : Addr} {o : HO} {u v : GO} (e : g a = some v) : Ext g H (gput g a u) (upd H a o) := fun b x h1 h2 => by
  have n : b ≠ a := fun z => by subst z; rw [h1] at e; cases e
  exact ⟨by rw [gput_ne n]; exact h1, .inl (by rw [upd_ne n]; exact h2)⟩
theorem RG.put (r : RG P w K g H) {a : Addr} {o : HO} {u v : GO} (e : g a = some v) (h : RO P w K (gput g a u) (upd H a o) a u) : RG P w K (gput g a u) (upd H a o) := fun b x q => by
  by_cases n : b = a
  · subst n; rw [gput_same] at q; cases q; exact h
  · rw [gput_ne n] at q
    exact (r b x q).mono (Ext.stay (Ext.put e)) (upd_ne n)

/-! ### slots -/
abbrev TSt := List (Option T)
def StR (P : Program) (w : World) (K : PySem.W.Frag) (g : G) (H : Hp) (δ : TSt) (σ : L2.St) : Prop := δ.length = σ.length ∧ ∀ (i : Nat) (t : T), δ[i]? = some (some t) → ∃ v, σ[i]? = some (some v) ∧ TV P w K g H t v
theorem StR.mono (m : Stay g H g' H') {δ : TSt} {σ : L2.St} (h : StR P w K g H δ σ) : StR P w K g' H' δ σ := ⟨h.1, fun i t e => let ⟨v, h1, h2⟩ := h.2 i t e; ⟨v, h1, h2.mono m⟩⟩
theorem StR.set {δ : TSt} {σ : L2.St} {i : Nat} {t : T} {v : V} (h : StR P w K g H δ σ) (r : TV P w K g H t v) : StR P w K g H (δ.set i (some t)) (σ.set i (some v)) := by
  refine ⟨by simp [h.1], fun j u e => ?_⟩
  by_cases q : i = j
  · subst q
    by_cases hl : i < δ.length
    · rw [List.getElem?_set_self hl] at e
      cases e
      exact ⟨v, by rw [List.getElem?_set_self (by rw [← h.1]; exact hl)], r⟩
    · rw [List.getElem?_eq_none (by simpa using hl)] at e; cases e
  · rw [List.getElem?_set_ne q] at e ⊢
    exact h.2 j u e
theorem StR.wipe {δ : TSt} {σ : L2.St} {i : Nat} (h : StR P w K g H δ σ) : StR P w K g H (δ.set i none) (σ.set i none) := by
  refine ⟨by simp [h.1], fun j u e => ?_⟩
  by_cases q : i = j
  · subst q
    by_cases hl : i < δ.length
    · rw [List.getElem?_set_self hl] at e; cases e
    · rw [List.getElem?_eq_none (by simpa using hl)] at e; cases e
  · rw [List.getElem?_set_ne q] at e ⊢
    exact h.2 j u e
def startT (N : List Str) (ds : List T) : TSt := ds.map some ++ List.replicate (N.length - ds.length) none
theorem startR {N : List Str} {ds : List T} {vs : List V} (h : TVs P w K g H ds vs) : StR P w K g H (startT N ds) (L2.start N vs) := by
  have hl := h.len
  refine ⟨by unfold startT L2.start; simp [hl], fun i t e => ?_⟩
  unfold startT at e
  unfold L2.start
  by_cases q : i < ds.length
  · rw [List.getElem?_append_left (by simpa using q), List.getElem?_map] at e
    cases e2 : ds[i]? with
    | none => rw [e2] at e; cases e
    | some d =>
      rw [e2] at e
      obtain rfl : d = t := by simpa using e
      obtain ⟨v, h1, h2⟩ := h.get e2
      exact ⟨v, by rw [List.getElem?_append_left (by rw [List.length_map, ← hl]; exact q), List.getElem?_map, h1]; rfl, h2⟩
  · rw [List.getElem?_append_right (by simpa using q), List.getElem?_replicate] at e
    split at e <;> cases e
end
end TL
set_option Elab.async false
set_option linter.all false
set_option maxRecDepth 100000
set_option maxHeartbeats 4000000
/-! TL2: the judgements of the tree layer: what is asked of trees (low), names, constants, operators, tests, blocks, if, targets. -/
namespace TL
open PySem PySem.Spec L2

abbrev K1 := T → G → Prop
abbrev QE := TSt → G → K1 → Prop
abbrev QT := TSt → G → (Bool → G → Prop) → Prop
abbrev QA := TSt → G → (List T → G → Prop) → Prop
structure TEnds where
  nx : TSt → G → Prop
  rt : K1
  bk : TSt → G → Prop := fun _ _ => False
  ct : TSt → G → Prop := fun _ _ => False
abbrev QS := TEnds → TSt → G → Prop
abbrev QG := T → TSt → G → (TSt → G → Prop) → Prop
abbrev QGs := List T → TSt → G → (TSt → G → Prop) → Prop
abbrev Q2 := T → T → G → K1 → Prop
abbrev QC := List T → G → K1 → Prop
abbrev QM := T → List T → G → K1 → Prop

section
variable (X : Cx)
abbrev Cx.tv (g : G) (H : Hp) := TV X.prog X.w X.K g H
abbrev Cx.tvs (g : G) (H : Hp) := TVs X.prog X.w X.K g H
abbrev Cx.rg (g : G) (H : Hp) := RG X.prog X.w X.K g H
abbrev Cx.sr (g : G) (H : Hp) := StR X.prog X.w X.K g H
def KE (g : G) (H : Hp) (Q' : K1) (Q : VK) : Prop := ∀ d g' v H', TV X.prog X.w X.K g' H' d v → Ext g H g' H' → RG X.prog X.w X.K g' H' → Q' d g' → Q v H'
def KB (g : G) (H : Hp) (Q' : Bool → G → Prop) (Q : Bool → Hp → Prop) : Prop := ∀ b g' H', Ext g H g' H' → RG X.prog X.w X.K g' H' → Q' b g' → Q b H'
def KA (g : G) (H : Hp) (Q' : List T → G → Prop) (Q : List V → Hp → Prop) : Prop := ∀ ds g' vs H', TVs X.prog X.w X.K g' H' ds vs → Ext g H g' H' → RG X.prog X.w X.K g' H' → Q' ds g' → Q vs H'
def KN (g : G) (H : Hp) (Q' : TSt → G → Prop) (Q : L2.St → Hp → Prop) : Prop := ∀ δ g' σ H', StR X.prog X.w X.K g' H' δ σ → Ext g H g' H' → RG X.prog X.w X.K g' H' → Q' δ g' → Q σ H'
structure KS (g : G) (H : Hp) (D' : TEnds) (D : Ends) : Prop where
  nx : KN X g H D'.nx D.nx
  rt : KE X g H D'.rt D.rt
  bk : KN X g H D'.bk D.bk
  ct : KN X g H D'.ct D.ct
def lowE (t : QE) : TE := fun σ H Q => ∃ δ g Q', StR X.prog X.w X.K g H δ σ ∧ RG X.prog X.w X.K g H ∧ t δ g Q' ∧ KE X g H Q' Q
def lowT (t : QT) : TT := fun σ H Q => ∃ δ g Q', StR X.prog X.w X.K g H δ σ ∧ RG X.prog X.w X.K g H ∧ t δ g Q' ∧ KB X g H Q' Q
def lowA (t : QA) : TA := fun σ H Q => ∃ δ g Q', StR X.prog X.w X.K g H δ σ ∧ RG X.prog X.w X.K g H ∧ t δ g Q' ∧ KA X g H Q' Q
def lowS (t : QS) : TS := fun D σ H => ∃ δ g D', StR X.prog X.w X.K g H δ σ ∧ RG X.prog X.w X.K g H ∧ t D' δ g ∧ KS X g H D' D
def lowG (t : QG) : L2.TG := fun v σ H Q => ∃ d δ g Q', StR X.prog X.w X.K g H δ σ ∧ TV X.prog X.w X.K g H d v ∧ RG X.prog X.w X.K g H ∧ t d δ g Q' ∧ KN X g H Q' Q
def lowGs (t : QGs) : L2.TGs := fun vs σ H Q => ∃ ds δ g Q', StR X.prog X.w X.K g H δ σ ∧ TVs X.prog X.w X.K g H ds vs ∧ RG X.prog X.w X.K g H ∧ t ds δ g Q' ∧ KN X g H Q' Q
def low2 (r : Q2) : R2 := fun x y H Q => ∃ d1 d2 g Q', TV X.prog X.w X.K g H d1 x ∧ TV X.prog X.w X.K g H d2 y ∧ RG X.prog X.w X.K g H ∧ r d1 d2 g Q' ∧ KE X g H Q' Q
def lowC (r : QC) : List V → Hp → VK → Prop := fun xs H Q => ∃ ds g Q', TVs X.prog X.w X.K g H ds xs ∧ RG X.prog X.w X.K g H ∧ r ds g Q' ∧ KE X g H Q' Q
def lowM (r : QM) : V → List V → Hp → VK → Prop := fun x xs H Q => ∃ d ds g Q', TV X.prog X.w X.K g H d x ∧ TVs X.prog X.w X.K g H ds xs ∧ RG X.prog X.w X.K g H ∧ r d ds g Q' ∧ KE X g H Q' Q
end

section
variable {X : Cx}
theorem KE.ext {g g1 : G} {H H1 : Hp} {Q' : K1} {Q : VK} (k : KE X g H Q' Q) (e : Ext g H g1 H1) : KE X g1 H1 Q' Q := fun d g' v H' a b c q => k d g' v H' a (e.trans b) c q
theorem KN.ext {g g1 : G} {H H1 : Hp} {Q' : TSt → G → Prop} {Q : L2.St → Hp → Prop} (k : KN X g H Q' Q) (e : Ext g H g1 H1) : KN X g1 H1 Q' Q := fun d g' v H' a b c q => k d g' v H' a (e.trans b) c q
theorem KB.ext {g g1 : G} {H H1 : Hp} {Q' : Bool → G → Prop} {Q : Bool → Hp → Prop} (k : KB X g H Q' Q) (e : Ext g H g1 H1) : KB X g1 H1 Q' Q := fun d g' H' b c q => k d g' H' (e.trans b) c q
theorem KA.ext {g g1 : G} {H H1 : Hp} {Q' : List T → G → Prop} {Q : List V → Hp → Prop} (k : KA X g H Q' Q) (e : Ext g H g1 H1) : KA X g1 H1 Q' Q := fun d g' v H' a b c q => k d g' v H' a (e.trans b) c q
theorem KS.ext {g g1 : G} {H H1 : Hp} {D' : TEnds} {D : Ends} (k : KS X g H D' D) (e : Ext g H g1 H1) : KS X g1 H1 D' D := ⟨k.nx.ext e, k.rt.ext e, k.bk.ext e, k.ct.ext e⟩
theorem PE.imp {e : Expr} {t t' : TE} (h : PE X e t) (i : ∀ σ H Q, t' σ H Q → t σ H Q) : PE X e t' := ⟨fun pins s σ H Q I q => h.run pins s σ H Q I (i σ H Q q)⟩
theorem PT.imp {e : Expr} {t t' : TT} (h : PT X e t) (i : ∀ σ H Q, t' σ H Q → t σ H Q) : PT X e t' := ⟨fun pins s σ H Q I q => h.run pins s σ H Q I (i σ H Q q)⟩
theorem PW.imp {e : Expr} {t t' : TT} (h : PW X e t) (i : ∀ σ H Q, t' σ H Q → t σ H Q) : PW X e t' := ⟨fun wh pins s σ H Q I q => h.run wh pins s σ H Q I (i σ H Q q)⟩
theorem PA.imp {e : List Expr} {t t' : TA} (h : PA X e t) (i : ∀ σ H Q, t' σ H Q → t σ H Q) : PA X e t' := ⟨fun pos pins s σ H Q I q => h.run pos pins s σ H Q I (i σ H Q q)⟩
theorem PS.imp {e : Stmt} {t t' : TS} (h : PS X e t) (i : ∀ D σ H, t' D σ H → t D σ H) : PS X e t' := ⟨fun pins s σ H D I q => h.run pins s σ H D I (i D σ H q)⟩
theorem PSs.imp {e : List Stmt} {t t' : TS} (h : PSs X e t) (i : ∀ D σ H, t' D σ H → t D σ H) : PSs X e t' := ⟨fun pins s σ H D I q => h.run pins s σ H D I (i D σ H q)⟩
theorem PG.imp {e : Expr} {t t' : L2.TG} (h : PG X e t) (i : ∀ v σ H Q, t' v σ H Q → t v σ H Q) : PG X e t' := ⟨fun pins s σ H v u Q I r q => h.run pins s σ H v u Q I r (i v σ H Q q)⟩
theorem PGs.imp {e : List Expr} {t t' : L2.TGs} (h : PGs X e t) (i : ∀ v σ H Q, t' v σ H Q → t v σ H Q) : PGs X e t' := ⟨fun pins s σ H v u Q I r q => h.run pins s σ H v u Q I r (i v σ H Q q)⟩

/-! ### names and constants -/
def sl : TSt → Nat → Option T
  | [], _ => none
  | x :: _, 0 => x
  | _ :: r, i + 1 => sl r i
theorem sl_get : ∀ {δ : TSt} {i : Nat} {d : T}, sl δ i = some d → δ[i]? = some (some d)
  | [], _, _, h => by cases h
  | x :: r, 0, d, h => by
    have : x = some d := h
    subst this; rfl
  | _ :: r, i + 1, d, h => by simpa using sl_get (δ := r) (i := i) h
def qVar (i : Nat) : QE := fun δ g Q => match sl δ i with
  | some d => Q d g
  | none => False
def qC (d : T) : QE := fun _ g Q => Q d g
theorem qv (i : Nat) {x : Str} {pos : Pos} (hN : X.N[i]? = some x := by rfl) (hv : Vis X.env.scope x := by first | exact Or.inl rfl | exact Or.inr (Or.inl rfl) | exact Or.inr (Or.inr rfl)) (hd : (x == ("__debug__" : Str)) = false := by decide)
    (hcd : (x == ("__classdict__" : Str)) = false := by decide) : PE X (.Name x pos) (lowE X (qVar i)) := by
  refine PE.imp (pe_var hN hv hd hcd) fun σ H Q ⟨δ, g, Q', S, R, h, k⟩ => ?_
  unfold qVar at h
  split at h
  · rename_i d e
    obtain ⟨v, h1, h2⟩ := S.2 i d (sl_get e)
    exact ⟨v, h1, k d g v H h2 Ext.refl R h⟩
  · exact h.elim
theorem q_const {e : Expr} {d : T} {v : V} (h : PE X e (tC v)) (r : ∀ g H, TV X.prog X.w X.K g H d v) : PE X e (lowE X (qC d)) :=
  PE.imp h fun σ H Q ⟨δ, g, Q', S, R, q, k⟩ => k d g v H (r g H) Ext.refl R q
theorem q_int {i j pos} : PE X (.Constant (.int i) j pos) (lowE X (qC (.int i))) := q_const pe_int fun _ _ => .int
theorem q_bl {b j pos} : PE X (.Constant (.bool b) j pos) (lowE X (qC (.bl b))) := q_const pe_bl fun _ _ => .bl
theorem q_non {j pos} : PE X (.Constant .none j pos) (lowE X (qC .non)) := q_const pe_non fun _ _ => .non
theorem q_str {x j pos} : PE X (.Constant (.str x) j pos) (lowE X (qC (.str x))) := q_const pe_str fun _ _ => .str
/-- a module's constant that is an int or a text, a def, a class -/
theorem q_globI {x : Str} {i : Int} {t : Tok} {pos : Pos} (hg : Gl X x) (hm : X.mg x = some (.int i t)) (hd : (x == ("__debug__" : Str)) = false := by decide) : PE X (.Name x pos) (lowE X (qC (.int i))) := q_const (pe_glob (v := .int i) hg hm ⟨t, rfl⟩ hd) fun _ _ => .int
theorem q_globS {x : Str} {i : Str} {t : Tok} {pos : Pos} (hg : Gl X x) (hm : X.mg x = some (.str i t)) (hd : (x == ("__debug__" : Str)) = false := by decide) : PE X (.Name x pos) (lowE X (qC (.str i))) := q_const (pe_glob (v := .str i) hg hm ⟨t, rfl⟩ hd) fun _ _ => .str
theorem q_globR {x : Str} {a : Addr} {pos : Pos} (hg : Gl X x) (hm : X.mg x = some (.ref a)) (hd : (x == ("__debug__" : Str)) = false := by decide) : PE X (.Name x pos) (lowE X (qC (.ref a))) := q_const (pe_glob (v := .ref a) hg hm rfl hd) fun _ _ => .ref
theorem q_ty {x : Str} {n : String} {pos : Pos} (hg : Gl X x) (hm : X.mg x = none) (hv : bootBuiltins x = some (.type n)) (hn : x ≠ "__name__" := by decide) (hd : (x == ("__debug__" : Str)) = false := by decide) : PE X (.Name x pos) (lowE X (qC (.ty n))) :=
  q_const (pe_bltn hg hm hv (v := .ty n) rfl hn hd) fun _ _ => .ty

/-! ### two in a row -/
variable {a b c : Expr} {ta tb tc : QE} {pos : Pos}
def qOp (r : Q2) (ta tb : QE) : QE := fun δ g Q => ta δ g fun x g1 => tb δ g1 fun y g2 => r x y g2 Q
theorem low_bin {σ : L2.St} {H : Hp} {δ : TSt} {g : G} {R' : T → T → G → Prop} {R : V → V → Hp → Prop} (S : StR X.prog X.w X.K g H δ σ) (RR : RG X.prog X.w X.K g H) (h : ta δ g fun x g1 => tb δ g1 fun y g2 => R' x y g2)
    (k : ∀ d1 d2 g' v1 v2 H', TV X.prog X.w X.K g' H' d1 v1 → TV X.prog X.w X.K g' H' d2 v2 → Ext g H g' H' → RG X.prog X.w X.K g' H' → R' d1 d2 g' → R v1 v2 H') :
    lowE X ta σ H fun x H1 => lowE X tb σ H1 fun y H2 => R x y H2 :=
  ⟨δ, g, _, S, RR, h, fun d1 g1 v1 H1 r1 e1 R1 h1 => ⟨δ, g1, _, S.mono e1.stay, R1, h1, fun d2 g2 v2 H2 r2 e2 R2 h2 => k d1 d2 g2 v1 v2 H2 (r1.mono e2.stay) r2 (e1.trans e2) R2 h2⟩⟩
theorem q_op {op : Operator} {r : Q2} (ho : OpR X (binaryOp op) (low2 X r)) (ha : PE X a (lowE X ta)) (hb : PE X b (lowE X tb)) : PE X (.BinOp a op b pos) (lowE X (qOp r ta tb)) := by
  refine PE.imp (pe_op ho ha hb) fun σ H Q ⟨δ, g, Q', S, R, h, k⟩ => ?_
  exact low_bin S R h fun d1 d2 g' v1 v2 H' r1 r2 e R2 h2 => ⟨d1, d2, g', Q', r1, r2, R2, h2, k.ext e⟩
theorem q_cmp {op : CmpOp} {r : Q2} (ho : OpR X (compareOp op) (low2 X r)) (ha : PE X a (lowE X ta)) (hb : PE X b (lowE X tb)) (hm : behindInMarks op b = false := by first | exact nomark _ | rfl) : PE X (.Compare a [op] [b] pos) (lowE X (qOp r ta tb)) := by
  refine PE.imp (pe_cmpR ho ha hb hm) fun σ H Q ⟨δ, g, Q', S, R, h, k⟩ => ?_
  exact low_bin S R h fun d1 d2 g' v1 v2 H' r1 r2 e R2 h2 => ⟨d1, d2, g', Q', r1, r2, R2, h2, k.ext e⟩
/-- a comparison as a test -/
def isB (b : Bool → G → Prop) : K1 := fun d g => match d with
  | .bl c => b c g
  | _ => False
def qTB (t : QE) : QT := fun δ g Q => t δ g (isB Q)
theorem isB_k {g : G} {H : Hp} {Q' : Bool → G → Prop} {Q : Bool → Hp → Prop} (k : KB X g H Q' Q) : KE X g H (isB Q') fun x H1 => ∃ c, x = .bl c ∧ Q c H1 := fun d g' v H' r e R q => by
  cases r with
  | bl => exact ⟨_, rfl, k _ _ _ e R q⟩
  | _ => exact q.elim
theorem q_tcmp {op : CmpOp} {r : Q2} (ho : OpR X (compareOp op) (low2 X r)) (ha : PE X a (lowE X ta)) (hb : PE X b (lowE X tb)) (hm : behindInMarks op b = false := by first | exact nomark _ | rfl) : PT X (.Compare a [op] [b] pos) (lowT X (qTB (qOp r ta tb))) := by
  refine PT.imp (pt_cmpR ho ha hb hm) fun σ H Q ⟨δ, g, Q', S, R, h, k⟩ => ?_
  exact low_bin S R h fun d1 d2 g' v1 v2 H' r1 r2 e R2 h2 => ⟨d1, d2, g', _, r1, r2, R2, h2, isB_k (k.ext e)⟩
theorem q_tval {e : Expr} {t : QE} (h : PE X e (lowE X t)) (he : ∀ whole, isTrue e X.env whole = (do let v ← whole; standAt e.pos; holding [v] (truthy v)) := by intro _; rfl) : PT X e (lowT X (qTB t)) := by
  refine PT.imp (pt_val h he) fun σ H Q ⟨δ, g, Q', S, R, h, k⟩ => ?_
  exact ⟨δ, g, _, S, R, h, isB_k k⟩
/-- a < b < c -/
def qChain (r r' : Q2) (ta tb tc : QE) : QE := fun δ g Q => ta δ g fun x g1 => tb δ g1 fun y g2 => r x y g2 (isB fun k g3 => if k = true then tc δ g3 fun z g4 => r' y z g4 Q else Q (.bl false) g3)

/-! ### and, or, not -/
variable {tA tB' : QT} {rest : List Expr}
def qAnd (t u : QT) : QT := fun δ g Q => t δ g fun c g1 => if c = true then u δ g1 Q else Q false g1
def qOr (t u : QT) : QT := fun δ g Q => t δ g fun c g1 => if c = true then Q true g1 else u δ g1 Q
def qNot (t : QT) : QT := fun δ g Q => t δ g fun c g1 => Q (!c) g1
theorem q_and1 (ha : PT X a (lowT X tA)) : PW X (.BoolOp .And [a] pos) (lowT X tA) := pw_and1 ha
theorem q_or1 (ha : PT X a (lowT X tA)) : PW X (.BoolOp .Or [a] pos) (lowT X tA) := pw_or1 ha
theorem q_and (ha : PT X a (lowT X tA)) (hb : PW X (.BoolOp .And (b :: rest) pos) (lowT X tB')) : PW X (.BoolOp .And (a :: b :: rest) pos) (lowT X (qAnd tA tB')) := by
  refine PW.imp (pw_and ha hb) fun σ H Q ⟨δ, g, Q', S, R, h, k⟩ => ⟨δ, g, _, S, R, h, fun c g1 H1 e R1 q => ?_⟩
  cases c with
  | true => exact iteT ⟨δ, g1, Q', S.mono e.stay, R1, (by simpa using q), k.ext e⟩
  | false => exact iteF (k _ _ _ e R1 (by simpa using q))
theorem q_or (ha : PT X a (lowT X tA)) (hb : PW X (.BoolOp .Or (b :: rest) pos) (lowT X tB')) : PW X (.BoolOp .Or (a :: b :: rest) pos) (lowT X (qOr tA tB')) := by
  refine PW.imp (pw_or ha hb) fun σ H Q ⟨δ, g, Q', S, R, h, k⟩ => ⟨δ, g, _, S, R, h, fun c g1 H1 e R1 q => ?_⟩
  cases c with
  | true => exact iteT (k _ _ _ e R1 (by simpa using q))
  | false => exact iteF ⟨δ, g1, Q', S.mono e.stay, R1, (by simpa using q), k.ext e⟩
theorem q_not (ha : PT X a (lowT X tA)) : PT X (.UnaryOp .Not a pos) (lowT X (qNot tA)) :=
  PT.imp (pt_not ha) fun σ H Q ⟨δ, g, Q', S, R, h, k⟩ => ⟨δ, g, _, S, R, h, fun c g1 H1 e R1 q => k _ _ _ e R1 q⟩
/-- as values -/
def qAndV (ta tb : QE) : QE := fun δ g Q => ta δ g (isB fun c g1 => if c = true then tb δ g1 Q else Q (.bl false) g1)
def qOrV (ta tb : QE) : QE := fun δ g Q => ta δ g (isB fun c g1 => if c = true then Q (.bl true) g1 else tb δ g1 Q)
def qNotV (ta : QE) : QE := fun δ g Q => ta δ g (isB fun c g1 => Q (.bl (!c)) g1)
theorem q_one {op} {t : QE} (h : PE X a (lowE X t)) : PE X (.BoolOp op [a] pos) (lowE X t) := pe_one h
theorem q_andV (ha : PE X a (lowE X ta)) (hb : PE X (.BoolOp .And (b :: rest) pos) (lowE X tb)) : PE X (.BoolOp .And (a :: b :: rest) pos) (lowE X (qAndV ta tb)) := by
  refine PE.imp (pe_and ha hb) fun σ H Q ⟨δ, g, Q', S, R, h, k⟩ => ⟨δ, g, _, S, R, h, fun d g1 v H1 r e R1 q => ?_⟩
  cases r with
  | @bl c =>
    refine ⟨c, rfl, ?_⟩
    cases c with
    | true => exact iteT ⟨δ, g1, Q', S.mono e.stay, R1, (by simpa [isB] using q), k.ext e⟩
    | false => exact iteF (k _ _ _ _ .bl e R1 (by simpa [isB] using q))
  | _ => exact q.elim
theorem q_orV (ha : PE X a (lowE X ta)) (hb : PE X (.BoolOp .Or (b :: rest) pos) (lowE X tb)) : PE X (.BoolOp .Or (a :: b :: rest) pos) (lowE X (qOrV ta tb)) := by
  refine PE.imp (pe_or ha hb) fun σ H Q ⟨δ, g, Q', S, R, h, k⟩ => ⟨δ, g, _, S, R, h, fun d g1 v H1 r e R1 q => ?_⟩
  cases r with
  | @bl c =>
    refine ⟨c, rfl, ?_⟩
    cases c with
    | true => exact iteT (k _ _ _ _ .bl e R1 (by simpa [isB] using q))
    | false => exact iteF ⟨δ, g1, Q', S.mono e.stay, R1, (by simpa [isB] using q), k.ext e⟩
  | _ => exact q.elim
theorem q_notV (ha : PE X a (lowE X ta)) : PE X (.UnaryOp .Not a pos) (lowE X (qNotV ta)) := by
  refine PE.imp (pe_not ha) fun σ H Q ⟨δ, g, Q', S, R, h, k⟩ => ⟨δ, g, _, S, R, h, fun d g1 v H1 r e R1 q => ?_⟩
  cases r with
  | @bl c => exact ⟨c, rfl, k _ _ _ _ .bl e R1 q⟩
  | _ => exact q.elim
def qIf (t : QT) (ta tb : QE) : QE := fun δ g Q => t δ g fun c g1 => if c = true then ta δ g1 Q else tb δ g1 Q
theorem q_ifExp (hc : PT X c (lowT X tA)) (ha : PE X a (lowE X ta)) (hb : PE X b (lowE X tb)) : PE X (.IfExp c a b pos) (lowE X (qIf tA ta tb)) := by
  refine PE.imp (pe_ifExp hc ha hb) fun σ H Q ⟨δ, g, Q', S, R, h, k⟩ => ⟨δ, g, _, S, R, h, fun c g1 H1 e R1 q => ?_⟩
  cases c with
  | true => exact iteT ⟨δ, g1, Q', S.mono e.stay, R1, (by simpa using q), k.ext e⟩
  | false => exact iteF ⟨δ, g1, Q', S.mono e.stay, R1, (by simpa using q), k.ext e⟩

/-! ### argument lists, tuples, lists -/
variable {e : Expr} {es : List Expr} {te : QE} {t : QA}
def qNil : QA := fun _ g Q => Q [] g
def qCons (ta : QE) (tr : QA) : QA := fun δ g Q => ta δ g fun x g1 => tr δ g1 fun xs g2 => Q (x :: xs) g2
theorem qa_nil : PA X [] (lowA X qNil) := PA.imp pa_nil fun σ H Q ⟨δ, g, Q', S, R, h, k⟩ => k [] g [] H .nil Ext.refl R h
theorem qa_cons (ha : PE X e (lowE X te)) (hr : PA X es (lowA X t)) (hs : starEach (e :: es) X.env = (false, eval e X.env) :: starEach es X.env := by rfl) : PA X (e :: es) (lowA X (qCons te t)) := by
  refine PA.imp (pa_cons ha hr hs) fun σ H Q ⟨δ, g, Q', S, R, h, k⟩ => ⟨δ, g, _, S, R, h, fun d g1 v H1 r e R1 q => ?_⟩
  exact ⟨δ, g1, _, S.mono e.stay, R1, q, fun ds g2 vs H2 r2 e2 R2 q2 => k _ _ _ _ (.cons (r.mono e2.stay) r2) (e.trans e2) R2 q2⟩
def qTup (t : QA) : QE := fun δ g Q => t δ g fun xs g1 => xs.length ≤ sizeLine ∧ Q (.tup xs) g1
theorem q_tup {x1} (h : PA X es (lowA X t)) : PE X (.Tuple es x1 pos) (lowE X (qTup t)) := by
  refine PE.imp (pe_tup h) fun σ H Q ⟨δ, g, Q', S, R, h, k⟩ => ⟨δ, g, _, S, R, h, fun ds g1 vs H1 r e R1 q => ?_⟩
  refine ⟨by rw [← r.len]; exact q.1, fun p hp => k _ _ _ _ (.tup (R1.fresh hp) (.inl upd_same) (r.mono (Ext.new hp).stay)) (e.trans (Ext.new hp)) (R1.new hp) q.2⟩
/-- a list, in the view -/
def qLst (t : QA) : QE := fun δ g Q => t δ g fun xs g1 => xs.length ≤ sizeLine ∧ ∀ p, g1 p = none → Q (.ref p) (gput g1 p (.lst xs))
theorem q_lst (h : PA X es (lowA X t)) : PE X (.List es pos) (lowE X (qLst t)) := by
  refine PE.imp (pe_lst h) fun σ H Q ⟨δ, g, Q', S, R, h, k⟩ => ⟨δ, g, _, S, R, h, fun ds g1 vs H1 r e R1 q => ?_⟩
  refine ⟨by rw [← r.len]; exact q.1, fun p hp => k _ _ _ _ .ref (e.trans (Ext.newG hp)) (R1.newG hp ?_) (q.2 p (R1.fresh hp))⟩
  exact .lst upd_same (r.mono (Ext.newG hp).stay)
/-- a list that is never changed -/
def qLstF (t : QA) : QE := fun δ g Q => t δ g fun xs g1 => xs.length ≤ sizeLine ∧ Q (.lst xs) g1
theorem q_lstF (h : PA X es (lowA X t)) : PE X (.List es pos) (lowE X (qLstF t)) := by
  refine PE.imp (pe_lst h) fun σ H Q ⟨δ, g, Q', S, R, h, k⟩ => ⟨δ, g, _, S, R, h, fun ds g1 vs H1 r e R1 q => ?_⟩
  exact ⟨by rw [← r.len]; exact q.1, fun p hp => k _ _ _ _ (.lst (R1.fresh hp) (.inl upd_same) (r.mono (Ext.new hp).stay)) (e.trans (Ext.new hp)) (R1.new hp) q.2⟩

/-! ### statements -/
variable {st : Stmt} {sts : List Stmt} {s1 s2 : QS}
def qNext : QS := fun D δ g => D.nx δ g
def qSeq (t u : QS) : QS := fun D δ g => t { D with nx := u D } δ g
theorem qss_nil : PSs X [] (lowS X qNext) := PSs.imp pss_nil fun D σ H ⟨δ, g, D', S, R, h, k⟩ => k.nx δ g σ H S Ext.refl R h
theorem qss_cons (h1 : PS X st (lowS X s1)) (h2 : PSs X sts (lowS X s2)) : PSs X (st :: sts) (lowS X (qSeq s1 s2)) :=
  PSs.imp (pss_cons h1 h2) fun D σ H ⟨δ, g, D', S, R, h, k⟩ => ⟨δ, g, _, S, R, h, ⟨fun δ1 g1 σ1 H1 S1 e R1 q => ⟨δ1, g1, D', S1, R1, q, k.ext e⟩, k.rt, k.bk, k.ct⟩⟩
theorem qss_one (h1 : PS X st (lowS X s1)) : PSs X [st] (lowS X s1) := pss_one h1
def qBreak : QS := fun D δ g => D.bk δ g
def qCont : QS := fun D δ g => D.ct δ g
theorem qs_pass : PS X (.Pass pos) (lowS X qNext) := PS.imp ps_pass fun D σ H ⟨δ, g, D', S, R, h, k⟩ => k.nx δ g σ H S Ext.refl R h
theorem qs_break : PS X (.Break pos) (lowS X qBreak) := PS.imp ps_break fun D σ H ⟨δ, g, D', S, R, h, k⟩ => k.bk δ g σ H S Ext.refl R h
theorem qs_continue : PS X (.Continue pos) (lowS X qCont) := PS.imp ps_continue fun D σ H ⟨δ, g, D', S, R, h, k⟩ => k.ct δ g σ H S Ext.refl R h
theorem qs_doc {x j pos pos'} : PS X (.Expr (.Constant (.str x) j pos) pos') (lowS X qNext) := PS.imp ps_doc fun D σ H ⟨δ, g, D', S, R, h, k⟩ => k.nx δ g σ H S Ext.refl R h
def qDrop (te : QE) : QS := fun D δ g => te δ g fun _ g1 => D.nx δ g1
theorem qs_expr (he : PE X e (lowE X te)) (hs : swapsWith e none pos.line X.env = pure false := by rfl) : PS X (.Expr e pos) (lowS X (qDrop te)) :=
  PS.imp (ps_expr he hs) fun D σ H ⟨δ, g, D', S, R, h, k⟩ => ⟨δ, g, _, S, R, h, fun d g1 v H1 r e R1 q => k.nx δ g1 σ H1 (S.mono e.stay) e R1 q⟩
def qRet (te : QE) : QS := fun D δ g => te δ g D.rt
theorem qs_ret (he : PE X e (lowE X te)) : PS X (.Return (some e) pos) (lowS X (qRet te)) :=
  PS.imp (ps_ret he) fun D σ H ⟨δ, g, D', S, R, h, k⟩ => ⟨δ, g, _, S, R, h, k.rt⟩
def qRetN : QS := fun D _ g => D.rt .non g
theorem qs_retN : PS X (.Return none pos) (lowS X qRetN) := PS.imp ps_retN fun D σ H ⟨δ, g, D', S, R, h, k⟩ => k.rt _ _ _ _ .non Ext.refl R h
def qIfS (c : QT) (t u : QS) : QS := fun D δ g => c δ g fun b g1 => if b = true then t D δ g1 else u D δ g1
theorem qs_if {c : Expr} {a b : List Stmt} {tc : QT} (hc : PT X c (lowT X tc)) (ha : PSs X a (lowS X s1)) (hb : PSs X b (lowS X s2)) : PS X (.If c a b pos) (lowS X (qIfS tc s1 s2)) := by
  refine PS.imp (ps_if hc ha hb) fun D σ H ⟨δ, g, D', S, R, h, k⟩ => ⟨δ, g, _, S, R, h, fun c g1 H1 e R1 q => ?_⟩
  cases c with
  | true => exact iteT ⟨δ, g1, D', S.mono e.stay, R1, (by simpa using q), k.ext e⟩
  | false => exact iteF ⟨δ, g1, D', S.mono e.stay, R1, (by simpa using q), k.ext e⟩
def qNever : QS := fun _ _ _ => False
theorem qs_never : PS X st (lowS X qNever) := PS.imp ps_never fun D σ H ⟨_, _, _, _, _, h, _⟩ => h
theorem qss_never : PSs X sts (lowS X qNever) := PSs.imp pss_never fun D σ H ⟨_, _, _, _, _, h, _⟩ => h
/-- an expression that is never asked -/
def qNeverE : QE := fun _ _ _ => False
theorem q_never : PE X e (lowE X qNeverE) := ⟨fun _ _ _ _ _ _ ⟨_, _, _, _, _, h, _⟩ => h.elim⟩

/-! ### targets -/
def gtName (i : Nat) : QG := fun d δ g Q => Q (δ.set i (some d)) g
theorem qg_name {i : Nat} {x : Str} (hN : X.N.Nodup) (hi : X.N[i]? = some x) (hx : Loc X.env.scope x) (hf : X.fn x = true ∨ X.env.scope.names.lookup x = some .local := by first | exact .inl rfl | exact .inr rfl | assumption) : PG X (.Name x pos) (lowG X (gtName i)) :=
  PG.imp (pg_name hN hi hx hf) fun v σ H Q ⟨d, δ, g, Q', S, r, R, h, k⟩ => k _ _ _ _ (S.set r) Ext.refl R h
def gtNil : QGs := fun ds δ g Q => match ds with
  | [] => Q δ g
  | _ => False
def gtCons (t : QG) (u : QGs) : QGs := fun ds δ g Q => match ds with
  | d :: r => t d δ g fun δ' g' => u r δ' g' Q
  | [] => False
theorem qgs_nil : PGs X [] (lowGs X gtNil) := PGs.imp pgs_nil fun v σ H Q ⟨ds, δ, g, Q', S, r, R, h, k⟩ => by
  cases r with
  | nil => exact ⟨rfl, k _ _ _ _ S Ext.refl R h⟩
  | cons _ _ => exact h.elim
theorem qgs_cons {e : Expr} {es : List Expr} {t : QG} {u : QGs} (h1 : PG X e (lowG X t)) (h2 : PGs X es (lowGs X u))
    (hs : (assignEach (e :: es) X.env).map (·.2) = assign e X.env :: (assignEach es X.env).map (·.2) := by rfl) : PGs X (e :: es) (lowGs X (gtCons t u)) := by
  refine PGs.imp (pgs_cons h1 h2 hs) fun v σ H Q ⟨ds, δ, g, Q', S, r, R, h, k⟩ => ?_
  cases r with
  | nil => exact h.elim
  | cons r rr => exact ⟨_, _, rfl, _, δ, g, _, S, r, R, h, fun δ1 g1 σ1 H1 S1 e R1 q => ⟨_, δ1, g1, Q', S1, rr.mono e.stay, R1, q, k.ext e⟩⟩
def gtTup (n : Nat) (t : QGs) : QG := fun d δ g Q => match d with
  | .tup ts => ts.length = n ∧ t ts δ g Q
  | _ => False
theorem qg_tup {es : List Expr} {k : Nat} {t : QGs} {n : Nat} (hc : X.calm = true) (h : PGs X es (lowGs X t))
    (hn : (assignEach es X.env).length = n := by rfl) (hst : (assignEach es X.env).findIdx? (·.1) = none := by rfl) : PG X (.Tuple es k pos) (lowG X (gtTup n t)) := by
  refine PG.imp (pg_tup hc h hn hst) fun v σ H Q ⟨d, δ, g, Q', S, r, R, h, k⟩ => ?_
  cases r with
  | tup h1 h2 h3 => exact ⟨_, _, rfl, .inl h2, h3.len ▸ h.1, _, δ, g, Q', S, h3, R, h.2, k⟩
  | _ => exact h.elim
def qAsg (te : QE) (t : QG) : QS := fun D δ g => te δ g fun x g1 => t x δ g1 D.nx
theorem qs_asg {tg e : Expr} {te : QE} {t : QG} (he : PE X e (lowE X te)) (hg : PG X tg (lowG X t)) (hs : swapsWithSole [tg] e pos.line X.env = pure false := by rfl) (hw : swappedStores [tg] e X.env = pure none := by rfl)
    (h1 : (assignEach [tg] X.env).map (·.2) = [assign tg X.env] := by rfl) : PS X (.Assign [tg] e pos) (lowS X (qAsg te t)) :=
  PS.imp (ps_asg he hg hs hw h1) fun D σ H ⟨δ, g, D', S, R, h, k⟩ => ⟨δ, g, _, S, R, h, fun d g1 v H1 r e R1 q => ⟨d, δ, g1, _, S.mono e.stay, r, R1, q, k.nx.ext e⟩⟩
theorem qs_set {i : Nat} {x : Str} {e : Expr} {te : QE} {pos' : Pos} (hN : X.N.Nodup) (hi : X.N[i]? = some x) (hx : Loc X.env.scope x) (he : PE X e (lowE X te)) (hs : swapsWith e (some (.Name x pos')) pos.line X.env = pure false := by rfl) (hf : X.fn x = true ∨ X.env.scope.names.lookup x = some .local := by first | exact .inl rfl | exact .inr rfl | assumption) :
    PS X (.Assign [.Name x pos'] e pos) (lowS X (qAsg te (gtName i))) :=
  PS.imp (ps_set hN hi hx he hs hf) fun D σ H ⟨δ, g, D', S, R, h, k⟩ => ⟨δ, g, _, S, R, h, fun d g1 v H1 r e R1 q => k.nx _ _ _ _ ((S.mono e.stay).set r) e R1 q⟩
/-- a, b = x, y: two names -/
def qPar (i j : Nat) (ta : QA) : QS := fun D δ g => ta δ g fun ds g1 => match ds with
  | [d1, d2] => D.nx ((δ.set i (some d1)).set j (some d2)) g1
  | _ => False
theorem qs_par {i j : Nat} {x y : Str} {a b : Expr} {ta : QA} {px py pt : Pos} {kt k2 pt2} (hc : X.calm = true) (hN : X.N.Nodup) (hi : X.N[i]? = some x) (hj : X.N[j]? = some y) (hij : i ≠ j)
    (hx : X.env.scope.names.lookup x = some .local) (hy : X.env.scope.names.lookup y = some .local) (ha : PA X [a, b] (lowA X ta))
    (hw : swappedStores [.Tuple [.Name x px, .Name y py] kt pt] (.Tuple [a, b] k2 pt2) X.env = pure (some [x, y]))
    (hs : swapsWithSole [.Tuple [.Name x px, .Name y py] kt pt] (.Tuple [a, b] k2 pt2) pos.line X.env = pure false := by rfl) :
    PS X (.Assign [.Tuple [.Name x px, .Name y py] kt pt] (.Tuple [a, b] k2 pt2) pos) (lowS X (qPar i j ta)) := by
  refine PS.imp (ps_par hc hN hi hj hij hx hy ha hw hs) fun D σ H ⟨δ, g, D', S, R, h, k⟩ => ⟨δ, g, _, S, R, h, fun ds g1 vs H1 r e R1 q => ?_⟩
  cases r with
  | nil => exact q.elim
  | cons r1 rr =>
    cases rr with
    | nil => exact q.elim
    | cons r2 r3 =>
      cases r3 with
      | nil => exact ⟨_, _, rfl, k.nx _ _ _ _ (((S.mono e.stay).set r1).set r2) e R1 q⟩
      | cons _ _ => exact q.elim
end
end TL
set_option Elab.async false
set_option linter.all false
set_option maxRecDepth 100000
set_option maxHeartbeats 4000000
/-! TL3: trees compared, dicts as lists of pairs, what is read through the view. -/
namespace TL
open PySem PySem.Spec L2

mutual
def T.beq : T → T → Bool
  | .non, .non => true
  | .bl a, .bl b => decide (a = b)
  | .int a, .int b => decide (a = b)
  | .str a, .str b => decide (a = b)
  | .ref a, .ref b => decide (a = b)
  | .ty a, .ty b => decide (a = b)
  | .tup a, .tup b => T.beqs a b
  | .lst a, .lst b => T.beqs a b
  | .dct a, .dct b => T.beqp a b
  | .scr a, .scr b => decide (a = b)
  | _, _ => false
def T.beqs : List T → List T → Bool
  | [], [] => true
  | a :: as, b :: bs => T.beq a b && T.beqs as bs
  | _, _ => false
def T.beqp : List (T × T) → List (T × T) → Bool
  | [], [] => true
  | (a, b) :: as, (c, d) :: bs => T.beq a c && T.beq b d && T.beqp as bs
  | _, _ => false
end
mutual
theorem T.beq_self : ∀ a : T, T.beq a a = true
  | .non => rfl
  | .bl a => by simp [T.beq]
  | .int a => by simp [T.beq]
  | .str a => by simp [T.beq]
  | .ref a => by simp [T.beq]
  | .ty a => by simp [T.beq]
  | .tup a => by rw [T.beq]; exact T.beqs_self a
  | .lst a => by rw [T.beq]; exact T.beqs_self a
  | .dct a => by rw [T.beq]; exact T.beqp_self a
  | .scr a => by simp [T.beq]
theorem T.beqs_self : ∀ a : List T, T.beqs a a = true
  | [] => rfl
  | a :: as => by rw [T.beqs, T.beq_self a, T.beqs_self as]; rfl
theorem T.beqp_self : ∀ a : List (T × T), T.beqp a a = true
  | [] => rfl
  | (a, b) :: as => by rw [T.beqp, T.beq_self a, T.beq_self b, T.beqp_self as]; rfl
end
mutual
theorem T.of_beq : ∀ a b : T, T.beq a b = true → a = b
  | .non, b, h => by cases b <;> first | rfl | (simp [T.beq] at h)
  | .bl a, b, h => by cases b <;> first | (simp [T.beq] at h; subst h; rfl) | (simp [T.beq] at h)
  | .int a, b, h => by cases b <;> first | (simp [T.beq] at h; subst h; rfl) | (simp [T.beq] at h)
  | .str a, b, h => by cases b <;> first | (simp [T.beq] at h; subst h; rfl) | (simp [T.beq] at h)
  | .ref a, b, h => by cases b <;> first | (simp [T.beq] at h; subst h; rfl) | (simp [T.beq] at h)
  | .ty a, b, h => by cases b <;> first | (simp [T.beq] at h; subst h; rfl) | (simp [T.beq] at h)
  | .tup a, b, h => by
    cases b with
    | tup b => rw [T.beq] at h; rw [T.of_beqs a b h]
    | _ => simp [T.beq] at h
  | .lst a, b, h => by
    cases b with
    | lst b => rw [T.beq] at h; rw [T.of_beqs a b h]
    | _ => simp [T.beq] at h
  | .dct a, b, h => by
    cases b with
    | dct b => rw [T.beq] at h; rw [T.of_beqp a b h]
    | _ => simp [T.beq] at h
  | .scr a, b, h => by cases b <;> first | (simp [T.beq] at h; subst h; rfl) | (simp [T.beq] at h)
theorem T.of_beqs : ∀ a b : List T, T.beqs a b = true → a = b
  | [], [], _ => rfl
  | a :: as, b :: bs, h => by
    rw [T.beqs, Bool.and_eq_true] at h
    rw [T.of_beq a b h.1, T.of_beqs as bs h.2]
  | [], _ :: _, h => by simp [T.beqs] at h
  | _ :: _, [], h => by simp [T.beqs] at h
theorem T.of_beqp : ∀ a b : List (T × T), T.beqp a b = true → a = b
  | [], [], _ => rfl
  | (a, x) :: as, (b, y) :: bs, h => by
    rw [T.beqp, Bool.and_eq_true, Bool.and_eq_true] at h
    rw [T.of_beq a b h.1.1, T.of_beq x y h.1.2, T.of_beqp as bs h.2]
  | [], _ :: _, h => by simp [T.beqp] at h
  | _ :: _, [], h => by simp [T.beqp] at h
end
instance : DecidableEq T := fun a b => if h : T.beq a b = true then Decidable.isTrue (T.of_beq a b h) else Decidable.isFalse fun e => h (e ▸ T.beq_self a)
theorem T.dec (a b : T) : decide (a = b) = T.beq a b := by
  cases h : T.beq a b with
  | true => exact decide_eq_true (T.of_beq a b h)
  | false => exact decide_eq_false fun e => by rw [e, T.beq_self] at h; cases h

/-! ### data -/
mutual
def pd : T → PyData
  | .non => .none
  | .bl b => .bool b
  | .int i => .int i
  | .str x => .str x
  | .tup ts => .tuple (pds ts)
  | .lst ts => .list (pds ts)
  | _ => .dict []
def pds : List T → List PyData
  | [] => []
  | t :: ts => pd t :: pds ts
end
mutual
/-- the tree is data at most n deep -/
def isDn : Nat → T → Bool
  | _, .non => true
  | _, .bl _ => true
  | _, .int _ => true
  | _, .str x => PyData.strOk x
  | n + 1, .tup ts => isDs n ts
  | n + 1, .lst ts => isDs n ts
  | _, _ => false
def isDs : Nat → List T → Bool
  | _, [] => true
  | n, t :: ts => isDn n t && isDs n ts
end
def isD (t : T) : Bool := isDn 40 t
mutual
theorem isDn_lay : ∀ (n : Nat) (t : T), isDn n t = true → (pd t).canLay0 = true ∧ (pd t).depth ≤ n
  | n, .non, _ => by simp [pd, PyData.canLay0, PyData.depth]
  | n, .bl _, _ => by simp [pd, PyData.canLay0, PyData.depth]
  | n, .int _, _ => by simp [pd, PyData.canLay0, PyData.depth]
  | n, .str _, h => by
    have h' : PyData.strOk _ = true := (by simpa [isDn] using h)
    simp [pd, PyData.canLay0, PyData.depth, h']
  | n + 1, .tup ts, h => by
    have q := isDs_lay n ts (by simpa [isDn] using h)
    simp only [pd, PyData.canLay0, PyData.depth]
    exact ⟨q.1, by omega⟩
  | n + 1, .lst ts, h => by
    have q := isDs_lay n ts (by simpa [isDn] using h)
    simp only [pd, PyData.canLay0, PyData.depth]
    exact ⟨q.1, by omega⟩
  | 0, .tup _, h => by simp [isDn] at h
  | 0, .lst _, h => by simp [isDn] at h
  | n, .ref _, h => by cases n <;> simp [isDn] at h
  | n, .ty _, h => by cases n <;> simp [isDn] at h
  | n, .dct _, h => by cases n <;> simp [isDn] at h
  | n, .scr _, h => by cases n <;> simp [isDn] at h
theorem isDs_lay : ∀ (n : Nat) (ts : List T), isDs n ts = true → PyData.canLayAll0 (pds ts) = true ∧ PyData.depthAll (pds ts) ≤ n
  | n, [], _ => by simp [pds, PyData.canLayAll0, PyData.depthAll]
  | n, t :: ts, h => by
    have h' : isDn n t = true ∧ isDs n ts = true := by simpa [isDs] using h
    have q1 := isDn_lay n t h'.1
    have q2 := isDs_lay n ts h'.2
    simp only [pds, PyData.canLayAll0, PyData.depthAll, q1.1, q2.1, Bool.and_self, true_and]
    omega
end
theorem isD_shaped {t : T} (h : isD t = true) : SeqAt.shaped (pd t) = true := by
  have q := isDn_lay 40 t h
  unfold SeqAt.shaped
  rw [q.1]
  simpa using Nat.le_trans q.2 (by decide)

mutual
/-- == of data -/
def eqb : T → T → Bool
  | .non, .non => true
  | .bl a, .bl b => a == b
  | .bl a, .int j => (if a then 1 else 0) == j
  | .int i, .bl b => i == (if b then 1 else 0)
  | .int i, .int j => i == j
  | .str x, .str y => x == y
  | .tup xs, .tup ys => eqbs xs ys
  | .lst xs, .lst ys => eqbs xs ys
  | _, _ => false
def eqbs : List T → List T → Bool
  | [], [] => true
  | x :: xs, y :: ys => eqb x y && eqbs xs ys
  | _, _ => false
end
mutual
theorem eqv_pd : ∀ (n m : Nat) (x y : T), isDn n x = true → isDn m y = true → PyData.eqv (pd x) (pd y) = eqb x y
  | n, m, .tup xs, y, hx, hy => by
    obtain ⟨n, rfl⟩ : ∃ k, n = k + 1 := by cases n with | zero => simp [isDn] at hx | succ k => exact ⟨k, rfl⟩
    cases y with
    | tup ys =>
      obtain ⟨m, rfl⟩ : ∃ k, m = k + 1 := by cases m with | zero => simp [isDn] at hy | succ k => exact ⟨k, rfl⟩
      simp only [pd, PyData.eqv, eqb]
      exact eqvs_pd n m xs ys (by simpa [isDn] using hx) (by simpa [isDn] using hy)
    | _ => first | (simp [pd, PyData.eqv, eqb]; done) | (cases m <;> simp [isDn] at hy)
  | n, m, .lst xs, y, hx, hy => by
    obtain ⟨n, rfl⟩ : ∃ k, n = k + 1 := by cases n with | zero => simp [isDn] at hx | succ k => exact ⟨k, rfl⟩
    cases y with
    | lst ys =>
      obtain ⟨m, rfl⟩ : ∃ k, m = k + 1 := by cases m with | zero => simp [isDn] at hy | succ k => exact ⟨k, rfl⟩
      simp only [pd, PyData.eqv, eqb]
      exact eqvs_pd n m xs ys (by simpa [isDn] using hx) (by simpa [isDn] using hy)
    | _ => first | (simp [pd, PyData.eqv, eqb]; done) | (cases m <;> simp [isDn] at hy)
  | n, m, .non, y, _, hy => by cases y <;> first | (simp [pd, PyData.eqv, eqb]; done) | (cases m <;> simp [isDn] at hy)
  | n, m, .bl _, y, _, hy => by cases y <;> first | (simp [pd, PyData.eqv, eqb]; done) | (cases m <;> simp [isDn] at hy)
  | n, m, .int _, y, _, hy => by cases y <;> first | (simp [pd, PyData.eqv, eqb]; done) | (cases m <;> simp [isDn] at hy)
  | n, m, .str _, y, _, hy => by cases y <;> first | (simp [pd, PyData.eqv, eqb]; done) | (cases m <;> simp [isDn] at hy)
  | n, m, .ref _, y, h, _ => by cases n <;> simp [isDn] at h
  | n, m, .ty _, y, h, _ => by cases n <;> simp [isDn] at h
  | n, m, .dct _, y, h, _ => by cases n <;> simp [isDn] at h
  | n, m, .scr _, y, h, _ => by cases n <;> simp [isDn] at h
theorem eqvs_pd : ∀ (n m : Nat) (xs ys : List T), isDs n xs = true → isDs m ys = true → PyData.eqvAll (pds xs) (pds ys) = eqbs xs ys
  | _, _, [], [], _, _ => by simp [pds, PyData.eqvAll, eqbs]
  | _, _, [], _ :: _, _, _ => by simp [pds, PyData.eqvAll, eqbs]
  | _, _, _ :: _, [], _, _ => by simp [pds, PyData.eqvAll, eqbs]
  | n, m, x :: xs, y :: ys, hx, hy => by
    have h1 : isDn n x = true ∧ isDs n xs = true := by simpa [isDs] using hx
    have h2 : isDn m y = true ∧ isDs m ys = true := by simpa [isDs] using hy
    simp only [pds, PyData.eqvAll, eqbs, eqv_pd n m x y h1.1 h2.1, eqvs_pd n m xs ys h1.2 h2.2]
end
mutual
/-- no bools, nothing but data -/
def nb : T → Bool
  | .non => true
  | .int _ => true
  | .str _ => true
  | .tup ts => nbs ts
  | .lst ts => nbs ts
  | _ => false
def nbs : List T → Bool
  | [] => true
  | t :: ts => nb t && nbs ts
end
mutual
theorem eqb_nb : ∀ (x y : T), nb x = true → nb y = true → eqb x y = decide (x = y)
  | .tup xs, y, hx, hy => by
    cases y with
    | tup ys =>
      simp only [eqb, eqbs_nb xs ys (by simpa [nb] using hx) (by simpa [nb] using hy), T.tup.injEq]
    | _ => simp [eqb]
  | .lst xs, y, hx, hy => by
    cases y with
    | lst ys =>
      simp only [eqb, eqbs_nb xs ys (by simpa [nb] using hx) (by simpa [nb] using hy), T.lst.injEq]
    | _ => simp [eqb]
  | .non, y, _, hy => by cases y <;> first | simp [eqb] | simp [nb] at hy
  | .int a, y, _, hy => by cases y <;> first | (simp [eqb]; done) | (simp [nb] at hy; done) | (simp only [eqb, T.int.injEq]; exact Bool.beq_eq_decide_eq _ _)
  | .str a, y, _, hy => by cases y <;> first | (simp [nb] at hy; done) | (simp only [eqb, T.str.injEq]; exact Bool.beq_eq_decide_eq _ _) | (simp [eqb]; done)
  | .bl _, y, h, _ => by simp [nb] at h
  | .ref _, y, h, _ => by simp [nb] at h
  | .ty _, y, h, _ => by simp [nb] at h
  | .dct _, y, h, _ => by simp [nb] at h
  | .scr _, y, h, _ => by simp [nb] at h
theorem eqbs_nb : ∀ (xs ys : List T), nbs xs = true → nbs ys = true → eqbs xs ys = decide (xs = ys)
  | [], [], _, _ => by simp [eqbs]
  | [], _ :: _, _, _ => by simp [eqbs]
  | _ :: _, [], _, _ => by simp [eqbs]
  | x :: xs, y :: ys, hx, hy => by
    have h1 : nb x = true ∧ nbs xs = true := by simpa [nbs] using hx
    have h2 : nb y = true ∧ nbs ys = true := by simpa [nbs] using hy
    simp only [eqbs, eqb_nb x y h1.1 h2.1, eqbs_nb xs ys h1.2 h2.2, List.cons.injEq, Bool.decide_and]
end

/-! ### dicts as lists of pairs -/
def look (kvs : List (T × T)) (k : T) : Option T := (kvs.find? fun p => decide (p.1 = k)).map (·.2)
def putT (kvs : List (T × T)) (k v : T) : List (T × T) := if (look kvs k).isSome then kvs.map fun p => if p.1 = k then (p.1, v) else p else kvs ++ [(k, v)]
def delT (kvs : List (T × T)) (k : T) : List (T × T) := kvs.filter fun p => decide (p.1 ≠ k)
def fk : T → Option Key
  | .int i => some (.inl i)
  | .str x => some (.inr x)
  | _ => none
def flatK (k : T) : Bool := (fk k).isSome
def tupK : T → Bool
  | .tup ts => match nkOf (.tup ts) with
    | some k => decide (k.depth ≤ 8)
    | none => false
  | _ => false
/-- k may be asked of a dict with these keys -/
def kOk (kvs : List (T × T)) (k : T) : Bool := (flatK k && kvs.all fun p => flatK p.1) || (tupK k && kvs.all fun p => tupK p.1)
theorem look_nil (k : T) : look [] k = none := rfl
theorem look_pos {p : T × T} {r : List (T × T)} {k : T} (e : p.1 = k) : look (p :: r) k = some p.2 := by simp [look, List.find?_cons, e]
theorem look_neg {p : T × T} {r : List (T × T)} {k : T} (e : ¬ p.1 = k) : look (p :: r) k = look r k := by simp [look, List.find?_cons, e]
theorem fk_key : ∀ {k : T} {x : Key}, fk k = some x → k = keyT x
  | .int _, x, h => by cases (Option.some.inj h); rfl
  | .str _, x, h => by cases (Option.some.inj h); rfl
  | .non, _, h => by cases h
  | .bl _, _, h => by cases h
  | .ref _, _, h => by cases h
  | .ty _, _, h => by cases h
  | .tup _, _, h => by cases h
  | .lst _, _, h => by cases h
  | .dct _, _, h => by cases h
  | .scr _, _, h => by cases h
theorem keyT_inj {a b : Key} (h : keyT a = keyT b) : a = b := by
  cases a <;> cases b <;> simp [keyT] at h <;> rw [h]
mutual
theorem nk_inj : ∀ (x y : T) (k : NestedKey), nkOf x = some k → nkOf y = some k → x = y
  | .non, y, k, hx, hy => by
    simp only [nkOf, Option.some.injEq] at hx; subst hx
    cases y <;> simp [nkOf] at hy
    · rfl
  | .int i, y, k, hx, hy => by
    simp only [nkOf, Option.some.injEq] at hx; subst hx
    cases y <;> simp [nkOf] at hy
    · rw [hy]
  | .str i, y, k, hx, hy => by
    simp only [nkOf, Option.some.injEq] at hx; subst hx
    cases y <;> simp [nkOf] at hy
    · rw [hy]
  | .tup xs, y, k, hx, hy => by
    simp only [nkOf, Option.map_eq_some_iff] at hx
    obtain ⟨ks, h1, h2⟩ := hx; subst h2
    cases y with
    | tup ys =>
      simp only [nkOf, Option.map_eq_some_iff] at hy
      obtain ⟨ls, h3, h4⟩ := hy
      injection h4 with h4; subst h4
      rw [nks_inj xs ys _ h1 h3]
    | _ => simp [nkOf] at hy
  | .bl _, _, _, hx, _ => by simp [nkOf] at hx
  | .ref _, _, _, hx, _ => by simp [nkOf] at hx
  | .ty _, _, _, hx, _ => by simp [nkOf] at hx
  | .lst _, _, _, hx, _ => by simp [nkOf] at hx
  | .dct _, _, _, hx, _ => by simp [nkOf] at hx
  | .scr _, _, _, hx, _ => by simp [nkOf] at hx
theorem nks_inj : ∀ (xs ys : List T) (ks : List NestedKey), nkOf.nks xs = some ks → nkOf.nks ys = some ks → xs = ys
  | [], [], _, _, _ => rfl
  | [], y :: ys, ks, hx, hy => by
    simp only [nkOf.nks, Option.some.injEq] at hx; subst hx
    simp only [nkOf.nks] at hy
    split at hy <;> simp at hy
  | x :: xs, [], ks, hx, hy => by
    simp only [nkOf.nks, Option.some.injEq] at hy; subst hy
    simp only [nkOf.nks] at hx
    split at hx <;> simp at hx
  | x :: xs, y :: ys, ks, hx, hy => by
    simp only [nkOf.nks] at hx hy
    split at hx
    · rename_i k1 l1 e1 e2
      split at hy
      · rename_i k2 l2 e3 e4
        simp only [Option.some.injEq] at hx hy
        subst hx
        injection hy with hy1 hy2
        subst hy1 hy2
        rw [nk_inj x y _ e1 e3, nks_inj xs ys _ e2 e4]
      · cases hy
    · cases hx
end
end TL
set_option Elab.async false
set_option linter.all false
set_option maxRecDepth 100000
set_option maxHeartbeats 4000000
/-! TL4: what the heap holds of a tree: data, keys, dicts; the rules for dicts. -/
namespace TL
open PySem PySem.Spec L2 PyProof.Rows

section
variable {P : Program} {w : World} {K : PySem.W.Frag} {g : G} {H : Hp} {h : Heap}
mutual
theorem TV.nested (ok : HOk P w H h) : ∀ (t : T) (v : V) (u : Value) (k : NestedKey), TV P w K g H t v → nkOf t = some k → RelV v u → NestedIs h k u
  | .non, _, _, k, r, e, q => by
    cases r; cases q
    simp only [nkOf, Option.some.injEq] at e; subst e; exact .none
  | .int i, _, _, k, r, e, q => by
    cases r; obtain ⟨t, rfl⟩ := q
    simp only [nkOf, Option.some.injEq] at e; subst e; exact .int _ _
  | .str i, _, _, k, r, e, q => by
    cases r; obtain ⟨t, rfl⟩ := q
    simp only [nkOf, Option.some.injEq] at e; subst e; exact .text _ _
  | .tup ts, _, _, k, r, e, q => by
    cases r with
    | tup h1 h2 h3 =>
      cases q
      simp only [nkOf, Option.map_eq_some_iff] at e
      obtain ⟨ks, e1, e2⟩ := e; subst e2
      obtain ⟨z, its, rv, o, ho, hc, n, hd⟩ := h2.ok ok
      exact .tup ho hc hd (TVs.nested ok ts _ its ks h3 e1 rv)
  | .bl _, _, _, _, _, e, _ => by simp [nkOf] at e
  | .ref _, _, _, _, _, e, _ => by simp [nkOf] at e
  | .ty _, _, _, _, _, e, _ => by simp [nkOf] at e
  | .lst _, _, _, _, _, e, _ => by simp [nkOf] at e
  | .dct _, _, _, _, _, e, _ => by simp [nkOf] at e
  | .scr _, _, _, _, _, e, _ => by simp [nkOf] at e
theorem TVs.nested (ok : HOk P w H h) : ∀ (ts : List T) (vs : List V) (us : List Value) (ks : List NestedKey), TVs P w K g H ts vs → nkOf.nks ts = some ks → Vals vs us → NestedAll h ks us
  | [], _, _, ks, r, e, q => by
    cases r; cases q
    simp only [nkOf.nks, Option.some.injEq] at e; subst e; exact .nil
  | t :: ts, _, _, ks, r, e, q => by
    cases r with
    | cons r1 r2 =>
      cases q with
      | cons q1 q2 =>
        simp only [nkOf.nks] at e
        split at e
        · rename_i k1 l1 e1 e2
          simp only [Option.some.injEq] at e; subst e
          exact .cons (TV.nested ok t _ _ _ r1 e1 q1) (TVs.nested ok ts _ _ _ r2 e2 q2)
        · cases e
end

/-! ### entries -/
theorem KVs.flat : ∀ {kvs ks}, KVs P w K g H kvs ks → (kvs.all fun p => flatK p.1) = true
  | _, _, .nil => rfl
  | _, _, .cons (k := k) _ t => by
    rw [List.all_cons, KVs.flat t]
    cases k <;> rfl
theorem KVs.look : ∀ {kvs ks}, KVs P w K g H kvs ks → ∀ k : Key, (valV ks k = none ∧ look kvs (keyT k) = none) ∨ ∃ v t, valV ks k = some v ∧ look kvs (keyT k) = some t ∧ TV P w K g H t v
  | _, _, .nil, k => .inl ⟨rfl, rfl⟩
  | _, _, .cons (k := k0) r t, k => by
    by_cases e : k0 = k
    · subst e
      exact .inr ⟨_, _, valV_pos rfl, look_pos rfl, r⟩
    · rw [valV_neg e, look_neg (fun z => e (keyT_inj z))]
      exact KVs.look t k
theorem KVs.len : ∀ {kvs ks}, KVs P w K g H kvs ks → kvs.length = ks.length
  | _, _, .nil => rfl
  | _, _, .cons _ t => by rw [List.length_cons, List.length_cons, KVs.len t]
theorem KVs.repl {k : Key} {t : T} {v : V} (r : TV P w K g H t v) : ∀ {kvs ks}, KVs P w K g H kvs ks → KVs P w K g H (kvs.map fun p => if p.1 = keyT k then (p.1, t) else p) (ks.map fun p => if p.1 = k then (p.1, v) else p)
  | _, _, .nil => .nil
  | _, _, .cons (k := k0) q l => by
    by_cases e : k0 = k
    · subst e
      simp only [List.map_cons, if_true]
      exact .cons r (KVs.repl r l)
    · simp only [List.map_cons, if_neg e, if_neg (fun z => e (keyT_inj z) : ¬ keyT k0 = keyT k)]
      exact .cons q (KVs.repl r l)
theorem KVs.app : ∀ {kvs ks kvs2 ks2}, KVs P w K g H kvs ks → KVs P w K g H kvs2 ks2 → KVs P w K g H (kvs ++ kvs2) (ks ++ ks2)
  | _, _, _, _, .nil, s => s
  | _, _, _, _, .cons r t, s => .cons r (KVs.app t s)
theorem KVs.put {kvs ks} (x : KVs P w K g H kvs ks) (k : Key) {t : T} {v : V} (r : TV P w K g H t v) : KVs P w K g H (putT kvs (keyT k) t) (putK ks k v) := by
  have a : (ks.any fun kv => decide (kv.1 = k)) = (TL.look kvs (keyT k)).isSome := by
    rw [valV_any]
    rcases x.look k with ⟨e1, e2⟩ | ⟨_, _, e1, e2, _⟩ <;> rw [e1, e2] <;> rfl
  unfold putT putK
  rw [← a]
  split
  · exact x.repl r
  · exact x.app (.cons r .nil)
theorem KVs.drop (k : Key) : ∀ {kvs ks}, KVs P w K g H kvs ks → KVs P w K g H (delT kvs (keyT k)) (dropK ks k)
  | _, _, .nil => .nil
  | _, _, .cons (k := k0) q l => by
    by_cases e : k0 = k
    · subst e
      unfold delT dropK
      rw [List.filter_cons_of_neg (by simp), List.filter_cons_of_neg (by simp)]
      exact KVs.drop _ l
    · unfold delT dropK
      rw [List.filter_cons_of_pos (by simpa using fun z => e (keyT_inj z)), List.filter_cons_of_pos (by simpa using e)]
      exact .cons q (KVs.drop k l)

theorem tupK_of {t : T} {nk : NestedKey} {b : Addr} (r : TV P w K g H t (.ref b)) (e : nkOf t = some nk) (d : nk.depth ≤ 8) : tupK t = true := by
  cases r with
  | tup _ _ _ => unfold tupK; simp only [e]; simpa using d
  | ref => simp [nkOf] at e
  | lst _ _ _ => simp [nkOf] at e
  | dct _ _ _ => simp [nkOf] at e
  | scr _ _ => simp [nkOf] at e
  | scrK _ => simp [nkOf] at e
theorem NVs.tups : ∀ {kvs xs}, NVs P w K g H kvs xs → (kvs.all fun p => tupK p.1) = true
  | _, _, .nil => rfl
  | _, _, .cons e r d _ _ t => by rw [List.all_cons, NVs.tups t, tupK_of r e d]; rfl
theorem NVs.len : ∀ {kvs xs}, NVs P w K g H kvs xs → kvs.length = xs.length
  | _, _, .nil => rfl
  | _, _, .cons _ _ _ _ _ t => by rw [List.length_cons, List.length_cons, NVs.len t]
theorem NVs.look {kt : T} {nk : NestedKey} (ek : nkOf kt = some nk) : ∀ {kvs xs}, NVs P w K g H kvs xs → (atKey xs nk = none ∧ look kvs kt = none) ∨ ∃ b u t v, atKey xs nk = some (b, u) ∧ look kvs kt = some t ∧ RelV v u ∧ TV P w K g H t v
  | _, _, .nil => .inl ⟨rfl, rfl⟩
  | _, _, .cons (kt := kt0) (nk := nk0) (b := b0) (u := u0) (xs := xs0) e r d rv rt l => by
    by_cases q : nk0 = nk
    · subst q
      have : kt0 = kt := nk_inj _ _ _ e ek
      subst this
      exact .inr ⟨b0, u0, _, _, by simp [atKey], look_pos rfl, rv, rt⟩
    · have q2 : ¬ kt0 = kt := fun z => by subst z; rw [e] at ek; exact q (Option.some.inj ek)
      rw [look_neg q2]
      have : atKey ((nk0, b0, u0) :: xs0) nk = atKey xs0 nk := by simp [atKey, q]
      rw [this]
      exact NVs.look ek l
theorem NVs.repl {kt : T} {nk : NestedKey} (ek : nkOf kt = some nk) {t : T} {v : V} {u : Value} (rv : RelV v u) (r : TV P w K g H t v) : ∀ {kvs xs}, NVs P w K g H kvs xs → NVs P w K g H (kvs.map fun p => if p.1 = kt then (p.1, t) else p) (xs.map (putAt nk u))
  | _, _, .nil => .nil
  | _, _, .cons (kt := kt0) (nk := nk0) e r0 d rv0 rt0 l => by
    by_cases q : nk0 = nk
    · subst q
      have : kt0 = kt := nk_inj _ _ _ e ek
      subst this
      simp only [List.map_cons, if_true, putAt]
      exact .cons e r0 d rv r (NVs.repl ek rv r l)
    · have q2 : ¬ kt0 = kt := fun z => by subst z; rw [e] at ek; exact q (Option.some.inj ek)
      simp only [List.map_cons, if_neg q2, putAt, if_neg q]
      exact .cons e r0 d rv0 rt0 (NVs.repl ek rv r l)
theorem NVs.app : ∀ {kvs ks kvs2 ks2}, NVs P w K g H kvs ks → NVs P w K g H kvs2 ks2 → NVs P w K g H (kvs ++ kvs2) (ks ++ ks2)
  | _, _, _, _, .nil, s => s
  | _, _, _, _, .cons a b c d e t, s => .cons a b c d e (NVs.app t s)
theorem NVs.put {kvs xs} (x : NVs P w K g H kvs xs) {kt : T} {nk : NestedKey} (ek : nkOf kt = some nk) {b : Addr} (rb : TV P w K g H kt (.ref b)) (dk : nk.depth ≤ 8) {t : T} {v : V} {u : Value} (rv : RelV v u) (r : TV P w K g H t v) :
    NVs P w K g H (putT kvs kt t) (storedH xs nk b u) := by
  have a : (atKey xs nk).isSome = (TL.look kvs kt).isSome := by
    rcases x.look ek with ⟨e1, e2⟩ | ⟨_, _, _, _, e1, e2, _⟩ <;> rw [e1, e2] <;> rfl
  unfold putT storedH
  rw [← a]
  split
  · exact x.repl ek rv r
  · exact x.app (.cons ek rb dk rv r .nil)
theorem NVs.drop {kt : T} {nk : NestedKey} (ek : nkOf kt = some nk) : ∀ {kvs xs}, NVs P w K g H kvs xs → NVs P w K g H (delT kvs kt) (withoutH xs nk)
  | _, _, .nil => .nil
  | _, _, .cons (kt := kt0) (nk := nk0) e r0 d rv0 rt0 l => by
    by_cases q : nk0 = nk
    · subst q
      have : kt0 = kt := nk_inj _ _ _ e ek
      subst this
      unfold delT withoutH
      rw [List.filter_cons_of_neg (by simp), List.filter_cons_of_neg (by simp)]
      exact NVs.drop ek l
    · have q2 : ¬ kt0 = kt := fun z => by subst z; rw [e] at ek; exact q (Option.some.inj ek)
      unfold delT withoutH
      rw [List.filter_cons_of_pos (by simpa using q2), List.filter_cons_of_pos (by simpa using q)]
      exact .cons e r0 d rv0 rt0 (NVs.drop ek l)
theorem NVs.is (ok : HOk P w H h) : ∀ {kvs xs}, NVs P w K g H kvs xs → ∀ x ∈ xs, (nestedKind P w).is h x.1 x.2.1
  | _, _, .nil, x, hx => by simp at hx
  | _, _, .cons e r0 d rv0 rt0 l, x, hx => by
    rcases List.mem_cons.mp hx with rfl | hx
    · exact ⟨TV.nested ok _ _ _ _ r0 e rfl, d⟩
    · exact NVs.is ok l x hx

/-! ### a dict by its pairs -/
structure DFlat (P : Program) (w : World) (K : PySem.W.Frag) (g : G) (H : Hp) (h : Heap) (a : Addr) (kvs : List (T × T)) : Prop where
  ex : ∃ ks vs, KVs P w K g H kvs ks ∧ KV ks vs ∧ h.DictOf (mixKind P w) a vs ∧ vs.length ≤ sizeLine
  sys : (a == sysModules) = false
structure DNest (P : Program) (w : World) (K : PySem.W.Frag) (g : G) (H : Hp) (h : Heap) (a : Addr) (kvs : List (T × T)) : Prop where
  ex : ∃ xs, NVs P w K g H kvs xs ∧ h.DictOfH (nestedKind P w) a xs ∧ xs.length ≤ sizeLine
  sys : (a == sysModules) = false
theorem dn_raw {a : Addr} {xs : List (NestedKey × Addr × Value)} (ok : HOk P w H h) (e : Rd H a (DN P w a xs)) : RawN P w a xs h ∧ xs.length ≤ sizeLine ∧ (a == sysModules) = false := by
  have q := e.ok ok
  exact (show (RawN P w a xs h ∧ xs.length ≤ sizeLine ∧ (a == sysModules) = false) ∧ _ from q).1
theorem raw_nil {a : Addr} (r : RawN P w a [] h) : h.DictOf (mixKind P w) a [] := by
  obtain ⟨o, es, ep, h1, h2, h3, h4, _⟩ := r
  have : es = #[] := by
    have := congrArg List.toArray h4
    simpa using this
  subst this
  refine ⟨o, #[], ep, h1, h2, h3, ?_, ?_, List.nodup_nil⟩
  · intro i hi; simp at hi
  · exact (by first | exact Pairs.nil | constructor | trivial | simp [Pairs])
theorem nil_raw {a : Addr} (r : h.DictOf (mixKind P w) a []) : h.DictOfH (nestedKind P w) a [] := by
  obtain ⟨o, es, ep, h1, h2, h3, _, h5, _⟩ := r
  refine ⟨o, es, ep, h1, h2, h3, ?_, fun x hx => by simp at hx, List.nodup_nil⟩
  cases q : es.toList with
  | nil => rfl
  | cons x r => rw [q] at h5; exact absurd h5 (by first | (intro z; cases z) | simp [Pairs])
theorem dflat {a : Addr} {u : HO} {kvs : List (T × T)} (ok : HOk P w H h) (e : Rd H a u) (d : DR P w K g H a u kvs) (hf : (kvs.all fun p => flatK p.1) = true) : DFlat P w K g H h a kvs := by
  cases d with
  | k x =>
    obtain ⟨z, hd, vs, rel, dd⟩ := dk_rd ok e
    exact ⟨⟨_, vs, x, rel, dd, by rw [← rel.length]; exact z⟩, hd⟩
  | n x =>
    obtain ⟨r, z, hd⟩ := dn_raw ok e
    cases x with
    | nil => exact ⟨⟨[], [], .nil, .nil, raw_nil r, Nat.zero_le _⟩, hd⟩
    | @cons kt nk b t v u kvs xs e1 r1 d1 _ _ _ =>
      have q := tupK_of r1 e1 d1
      rw [List.all_cons, Bool.and_eq_true] at hf
      have f := hf.1
      cases kt <;> simp [tupK] at q <;> simp [flatK, fk] at f
theorem dnest {a : Addr} {u : HO} {kvs : List (T × T)} (ok : HOk P w H h) (e : Rd H a u) (d : DR P w K g H a u kvs) (hf : (kvs.all fun p => tupK p.1) = true) : DNest P w K g H h a kvs := by
  cases d with
  | k x =>
    obtain ⟨z, hd, vs, rel, dd⟩ := dk_rd ok e
    cases x with
    | nil =>
      cases rel
      exact ⟨⟨[], .nil, nil_raw dd, Nat.zero_le _⟩, hd⟩
    | @cons k t v kvs ks _ _ =>
      rw [List.all_cons, Bool.and_eq_true] at hf
      have f := hf.1
      cases k <;> simp [tupK, keyT] at f
  | n x =>
    obtain ⟨⟨o, es, ep, h1, h2, h3, h4, h5⟩, z, hd⟩ := dn_raw ok e
    exact ⟨⟨_, x, ⟨o, es, ep, h1, h2, h3, h4, x.is ok, h5⟩, z⟩, hd⟩
theorem dict_obj {a : Addr} {u : HO} {kvs : List (T × T)} (ok : HOk P w H h) (e : Rd H a u) (d : DR P w K g H a u kvs) : ∃ o es ep, h.get? a = some o ∧ o.ExactDict ∧ o.data = .dict es ep ∧ es.size = kvs.length ∧ (a == sysModules) = false ∧ kvs.length ≤ sizeLine := by
  cases d with
  | k x =>
    obtain ⟨z, hd, vs, rel, ⟨o, es, ep, h1, h2, h3, _, h5, _⟩⟩ := dk_rd ok e
    have hz : es.size = vs.length := by
      rw [← Array.length_toList]
      exact (by first | exact Paired.length h5 | exact Pairs.length h5 | exact h5.length)
    exact ⟨o, es, ep, h1, h2, h3, by rw [x.len, rel.length, hz], hd, by rw [x.len]; exact z⟩
  | n x =>
    obtain ⟨⟨o, es, ep, h1, h2, h3, h4, h5⟩, z, hd⟩ := dn_raw ok e
    exact ⟨o, es, ep, h1, h2, h3, by rw [x.len, ← Array.length_toList, h4, List.length_map], hd, by rw [x.len]; exact z⟩
end

/-! ### what stands behind a value -/
/-- the value through the view: a changeable list or dict as it is now -/
def res (g : G) : T → T
  | .ref a => match g a with
    | some (.lst ts) => .lst ts
    | some (.dct kvs) => .dct kvs
    | _ => .ref a
  | d => d
inductive RV (P : Program) (w : World) (K : PySem.W.Frag) (g : G) (H : Hp) : T → V → Prop
  | base {d v} : TV P w K g H d v → RV P w K g H d v
  | lst {a ts xs} : H a = some (.lst xs) → TVs P w K g H ts xs → RV P w K g H (.lst ts) (.ref a)
  | dct {a u kvs} : H a = some u → DR P w K g H a u kvs → RV P w K g H (.dct kvs) (.ref a)
section
variable {P : Program} {w : World} {K : PySem.W.Frag} {g : G} {H : Hp} {h : Heap}
theorem res_rv {d : T} {v : V} (R : RG P w K g H) (r : TV P w K g H d v) : RV P w K g H (res g d) v := by
  cases r with
  | @ref a =>
    cases q : g a with
    | none =>
      have : res g (.ref a) = .ref a := by simp [res, q]
      rw [this]; exact .base .ref
    | some o =>
      cases o with
      | lst ts =>
        have : res g (.ref a) = .lst ts := by simp [res, q]
        rw [this]
        cases R a _ q with
        | lst h1 h2 => exact .lst h1 h2
      | dct kvs =>
        have : res g (.ref a) = .dct kvs := by simp [res, q]
        rw [this]
        cases R a _ q with
        | dct h1 h2 => exact .dct h1 h2
      | _ =>
        have : res g (.ref a) = .ref a := by simp [res, q]
        rw [this]; exact .base .ref
  | tup a b c => exact .base (.tup a b c)
  | lst a b c => exact .base (.lst a b c)
  | dct a b c => exact .base (.dct a b c)
  | scr a b => exact .base (.scr a b)
  | scrK a => exact .base (.scrK a)
  | non => exact .base .non
  | bl => exact .base .bl
  | int => exact .base .int
  | str => exact .base .str
  | ty => exact .base .ty
theorem RV.toLst {ts : List T} {v : V} (r : RV P w K g H (.lst ts) v) : ∃ a xs, v = .ref a ∧ Rd H a (.lst xs) ∧ TVs P w K g H ts xs := by
  cases r with
  | base r => cases r with | lst a b c => exact ⟨_, _, rfl, b, c⟩
  | lst a b => exact ⟨_, _, rfl, .inl a, b⟩
theorem RV.toTup {ts : List T} {v : V} (r : RV P w K g H (.tup ts) v) : ∃ a xs, v = .ref a ∧ Rd H a (.tup xs) ∧ TVs P w K g H ts xs := by
  cases r with
  | base r => cases r with | tup a b c => exact ⟨_, _, rfl, b, c⟩
theorem RV.toDct {kvs : List (T × T)} {v : V} (r : RV P w K g H (.dct kvs) v) : ∃ a u, v = .ref a ∧ Rd H a u ∧ DR P w K g H a u kvs := by
  cases r with
  | base r => cases r with | dct a b c => exact ⟨_, _, rfl, b, c⟩
  | dct a b => exact ⟨_, _, rfl, .inl a, b⟩
mutual
theorem TV.dp (K : PySem.W.Frag) : ∀ (n : Nat) (t : T) (v : V), TV P w K g H t v → isDn n t = true → Dp K H v (pd t)
  | _, .non, _, r, _ => by cases r; exact .non
  | _, .bl b, _, r, _ => by cases r; exact .bl b
  | _, .int i, _, r, _ => by cases r; exact .int i
  | _, .str x, _, r, _ => by cases r; exact .str x
  | n + 1, .tup ts, _, r, e => by
    cases r with
    | tup _ b c => exact .tup (.inl b) (TVs.dp K n ts _ c (by simpa [isDn] using e))
  | n + 1, .lst ts, _, r, e => by
    cases r with
    | lst _ b c => exact .lst (.inl b) (TVs.dp K n ts _ c (by simpa [isDn] using e))
  | 0, .tup _, _, _, h => by simp [isDn] at h
  | 0, .lst _, _, _, h => by simp [isDn] at h
  | n, .ref _, _, _, h => by cases n <;> simp [isDn] at h
  | n, .ty _, _, _, h => by cases n <;> simp [isDn] at h
  | n, .dct _, _, _, h => by cases n <;> simp [isDn] at h
  | n, .scr _, _, _, h => by cases n <;> simp [isDn] at h
theorem TVs.dp (K : PySem.W.Frag) : ∀ (n : Nat) (t : List T) (v : List V), TVs P w K g H t v → isDs n t = true → DpAll K H v (pds t)
  | _, [], _, r, _ => by cases r; exact .nil
  | n, t :: ts, _, r, e => by
    have e' : isDn n t = true ∧ isDs n ts = true := by simpa [isDs] using e
    cases r with
    | cons a b => exact .cons (TV.dp K n t _ a e'.1) (TVs.dp K n ts _ b e'.2)
end
theorem RV.dp (K : PySem.W.Frag) {t : T} {v : V} (r : RV P w K g H t v) (e : isD t = true) : Dp K H v (pd t) := by
  cases r with
  | base r => exact r.dp K 40 t v e
  | @lst a ts xs b c => exact .lst (.inl (.inl b)) (c.dp K 39 ts xs (by simpa [isD, isDn] using e))
  | dct _ _ => simp [isD, isDn] at e
end
end TL
set_option Elab.async false
set_option linter.all false
set_option maxRecDepth 100000
set_option maxHeartbeats 4000000
/-! TL5: operations by values: numbers, texts, tuples, lists, ==, in, is, places, slices, len, isinstance, built-in calls. -/
namespace TL
open PySem PySem.Spec L2 PyProof.Rows

section
variable {X : Cx}
theorem OpR.imp {f : Value → Value → Sem Value} {r r' : R2} (h : OpR X f r) (i : ∀ x y H Q, r' x y H Q → r x y H Q) : OpR X f r' := fun pins s σ H x y v u Q I rx ry q => h pins s σ H x y v u Q I rx ry (i _ _ _ _ q)
theorem CallR.imp {f : Value} {r r' : List V → Hp → VK → Prop} (h : CallR X f r) (i : ∀ xs H Q, r' xs H Q → r xs H Q) : CallR X f r' := fun pins s σ H xs us Q I rx q => h pins s σ H xs us Q I rx (i _ _ _ q)
theorem MtR.imp {f : String} {r r' : V → List V → Hp → VK → Prop} (h : MtR X f r) (i : ∀ x xs H Q, r' x xs H Q → r x xs H Q) : MtR X f r' := fun pins s σ H x xs v us Q I rx rs q => h pins s σ H x xs v us Q I rx rs (i _ _ _ _ q)
theorem IxR.imp {r r' : R2} (h : IxR X r) (i : ∀ x y H Q, r' x y H Q → r x y H Q) : IxR X r' := fun a b pins s σ H x y v u Q I rx ry q hs => h a b pins s σ H x y v u Q I rx ry (i _ _ _ _ q) hs

/-! ### numbers -/
def n2 (k : Int → Int → G → K1 → Prop) : Q2 := fun a b g Q => match a, b with
  | .int i, .int j => k i j g Q
  | _, _ => False
theorem low_n2 {C : Int → Int → Prop} {f : Int → Int → Int} {x y : V} {H : Hp} {Q : VK} (h : low2 X (n2 fun i j g Q => C i j ∧ Q (.int (f i j)) g) x y H Q) : rI C (fun i j => .int (f i j)) x y H Q := by
  obtain ⟨d1, d2, g, Q', r1, r2, R, h, k⟩ := h
  unfold n2 at h
  split at h
  · cases r1; cases r2; exact ⟨_, _, rfl, rfl, h.1, k _ _ _ _ .int Ext.refl R h.2⟩
  · exact h.elim
theorem low_n2b {f : Int → Int → Bool} {x y : V} {H : Hp} {Q : VK} (h : low2 X (n2 fun i j g Q => Q (.bl (f i j)) g) x y H Q) : rI0 (fun i j => .bl (f i j)) x y H Q := by
  obtain ⟨d1, d2, g, Q', r1, r2, R, h, k⟩ := h
  unfold n2 at h
  split at h
  · cases r1; cases r2; exact ⟨_, _, rfl, rfl, k _ _ _ _ .bl Ext.refl R h⟩
  · exact h.elim
def aSub : Q2 := n2 fun i j g Q => Q (.int (i - j)) g
def aMul : Q2 := n2 fun i j g Q => CMulW i j ∧ Q (.int (i * j)) g
def aFdiv : Q2 := n2 fun i j g Q => CDivW i j ∧ Q (.int (i / j)) g
def aMod : Q2 := n2 fun i j g Q => 0 < j ∧ Q (.int (i % j)) g
def aPow : Q2 := n2 fun i j g Q => CPow i j ∧ Q (.int (i ^ j.toNat)) g
theorem o_sub : OpR X (binaryOp .Sub) (low2 X aSub) := OpR.imp op_sub fun x y H Q ⟨d1, d2, g, Q', r1, r2, R, h, k⟩ => by
  unfold aSub n2 at h
  split at h
  · cases r1; cases r2; exact ⟨_, _, rfl, rfl, k _ _ _ _ .int Ext.refl R h⟩
  · exact h.elim
theorem o_mul : OpR X (binaryOp .Mult) (low2 X aMul) := OpR.imp op_mulW fun _ _ _ _ => low_n2
theorem o_fdiv : OpR X (binaryOp .FloorDiv) (low2 X aFdiv) := OpR.imp op_fdivW fun _ _ _ _ => low_n2
theorem o_mod : OpR X (binaryOp .Mod) (low2 X aMod) := OpR.imp op_mod fun _ _ _ _ => low_n2
theorem o_pow : OpR X (binaryOp .Pow) (low2 X aPow) := OpR.imp op_pow fun _ _ _ _ => low_n2
def cLt : Q2 := n2 fun i j g Q => Q (.bl (decide (i < j))) g
def cLe : Q2 := n2 fun i j g Q => Q (.bl (decide (i ≤ j))) g
def cGt : Q2 := n2 fun i j g Q => Q (.bl (decide (j < i))) g
def cGe : Q2 := n2 fun i j g Q => Q (.bl (decide (j ≤ i))) g
theorem o_lt : OpR X (compareOp .Lt) (low2 X cLt) := OpR.imp op_lt fun _ _ _ _ => low_n2b
theorem o_le : OpR X (compareOp .LtE) (low2 X cLe) := OpR.imp op_le fun _ _ _ _ => low_n2b
theorem o_gt : OpR X (compareOp .Gt) (low2 X cGt) := OpR.imp op_gt fun _ _ _ _ => low_n2b
theorem o_ge : OpR X (compareOp .GtE) (low2 X cGe) := OpR.imp op_ge fun _ _ _ _ => low_n2b
def uNeg (t : QE) : QE := fun δ g Q => t δ g fun d g1 => match d with
  | .int i => Q (.int (-i)) g1
  | _ => False
theorem q_neg {a : Expr} {t : QE} {pos : Pos} (ha : PE X a (lowE X t)) : PE X (.UnaryOp .USub a pos) (lowE X (uNeg t)) := by
  refine PE.imp (pe_un un_neg ha) fun σ H Q ⟨δ, g, Q', S, R, h, k⟩ => ⟨δ, g, _, S, R, h, fun d g1 v H1 r e R1 q => ?_⟩
  cases r with
  | int => exact ⟨_, rfl, k _ _ _ _ .int e R1 q⟩
  | _ => exact q.elim

/-! ### a tracked list or a frozen one -/
theorem rdl {pins : List (Addr × Obj)} {σ : L2.St} {H : Hp} {s : Shared} {l : Addr} {xs : List V} (I : Inv X pins σ H s) (hH : Rd H l (.lst xs)) : xs.length ≤ sizeLine ∧ ∃ (its : List Value) (n : Nat), Vals xs its ∧ xs.length = its.length ∧ s.heap.get? l = some { cls := .type "list", data := .seq its.toArray n } := by
  obtain ⟨z, its, n, r, e⟩ := hH.ok I.hok
  exact ⟨z, its, n, r, r.length, e⟩
theorem TVs.of1 {g : G} {H : Hp} {xs : List V} {ds : List T} (h : TVs X.prog X.w X.K g H ds xs) : ds.length = xs.length := h.len

/-! ### + -/
def aAdd : Q2 := fun a b g Q => match res g a, res g b with
  | .int i, .int j => Q (.int (i + j)) g
  | .str x, .str y => x.length + y.length ≤ sizeLine ∧ Q (.str (x ++ y)) g
  | .tup xs, .tup ys => xs ≠ [] ∧ xs.length + ys.length ≤ sizeLine ∧ Q (.tup (xs ++ ys)) g
  | .lst xs, .lst ys => xs.length + ys.length ≤ sizeLine ∧ ∀ p, g p = none → Q (.ref p) (gput g p (.lst (xs ++ ys)))
  | _, _ => False
theorem o_add : OpR X (binaryOp .Add) (low2 X aAdd) := by
  intro pins s σ H x y v u Q I rx ry h
  obtain ⟨d1, d2, g, Q', r1, r2, R, h, k⟩ := h
  have q1 := res_rv R r1
  have q2 := res_rv R r2
  unfold aAdd at h
  split at h
  · rename_i i j e1 e2
    rw [e1] at q1; rw [e2] at q2
    cases q1 with | base q1 => cases q2 with | base q2 => cases q1; cases q2; exact op_add pins s σ H _ _ v u Q I rx ry ⟨i, j, rfl, rfl, k _ _ _ _ .int Ext.refl R h⟩
  · rename_i i j e1 e2
    rw [e1] at q1; rw [e2] at q2
    cases q1 with | base q1 => cases q2 with | base q2 => cases q1; cases q2; exact op_add_str pins s σ H _ _ v u Q I rx ry ⟨i, j, rfl, rfl, h.1, k _ _ _ _ .str Ext.refl R h.2⟩
  · rename_i xs ys e1 e2
    rw [e1] at q1; rw [e2] at q2
    obtain ⟨a, xv, rfl, ha, hx⟩ := q1.toTup
    obtain ⟨b, yv, rfl, hb, hy⟩ := q2.toTup
    obtain ⟨hne, hz, hq⟩ := h
    refine op_catT pins s σ H _ _ v u Q I rx ry ⟨a, b, xv, yv, rfl, rfl, .inl ha, .inl hb, ?_, by rw [← hx.len, ← hy.len]; exact hz, fun hn => ?_, fun _ p hp => ?_⟩
    · intro z; subst z; cases hx; exact hne rfl
    · subst hn; cases hy
      rw [List.append_nil] at hq
      cases q1 with
      | base q1 => exact k _ _ _ _ q1 Ext.refl R hq
    · exact k _ _ _ _ (.tup (R.fresh hp) (.inl upd_same) ((hx.app hy).mono (Ext.new hp).stay)) (Ext.new hp) (R.new hp) hq
  · rename_i xs ys e1 e2
    rw [e1] at q1; rw [e2] at q2
    obtain ⟨a, xv, rfl, ha, hx⟩ := q1.toLst
    obtain ⟨b, yv, rfl, hb, hy⟩ := q2.toLst
    cases rx; cases ry
    obtain ⟨z, its, n, r, hl, e⟩ := rdl I ha
    obtain ⟨z2, its2, n2, r2, hl2, e2⟩ := rdl I hb
    obtain ⟨hz, hq⟩ := h
    have hxl := hx.len
    have hyl := hy.len
    refine PySem.P.add_list e e2 ?_ (by rw [List.size_toArray, List.size_toArray]; omega)
    have ea : its.toArray ++ its2.toArray = (its ++ its2).toArray := by simp
    rw [ea]
    have hp : H s.heap.objs.size = none := I.fresh
    refine ⟨.ref _, _, I.lnew (t' := s.toks) (r.append r2) (by rw [List.length_append]; omega), rfl, k _ _ _ _ .ref (Ext.newG hp) (R.newG hp (.lst upd_same ((hx.app hy).mono (Ext.newG hp).stay))) (hq _ (R.fresh hp))⟩
  · exact h.elim

/-! ### ==, !=, is None -/
def cEqV (a b : T) (k : Bool → Prop) : Prop := match a, b with
  | .str x, .str y => k (decide (x = y))
  | .bl x, .bl y => k (decide (x = y))
  | .int x, .int y => k (decide (x = y))
  | a, b => isD a = true ∧ isD b = true ∧ k (eqb a b)
def cEq : Q2 := fun a b g Q => cEqV (res g a) (res g b) fun c => Q (.bl c) g
def cNe : Q2 := fun a b g Q => cEqV (res g a) (res g b) fun c => Q (.bl (!c)) g
theorem o_eq_core {g : G} {H : Hp} {d1 d2 : T} {x y : V} {P : Bool → Prop} (q1 : RV X.prog X.w X.K g H d1 x) (q2 : RV X.prog X.w X.K g H d2 y) (h : cEqV d1 d2 P) :
    (scal x y = true ∧ P (decide (x = y))) ∨ (∃ d e, Dp X.K H x d ∧ Dp X.K H y e ∧ SeqAt.shaped d = true ∧ SeqAt.shaped e = true ∧ P (PyData.eqv d e)) := by
  unfold cEqV at h
  split at h
  · cases q1 with | base q1 => cases q2 with | base q2 => cases q1; cases q2; exact .inl ⟨rfl, by simpa using h⟩
  · cases q1 with | base q1 => cases q2 with | base q2 => cases q1; cases q2; exact .inl ⟨rfl, by simpa using h⟩
  · cases q1 with | base q1 => cases q2 with | base q2 => cases q1; cases q2; exact .inl ⟨rfl, by simpa using h⟩
  · obtain ⟨h1, h2, h⟩ := h
    exact .inr ⟨pd d1, pd d2, q1.dp X.K h1, q2.dp X.K h2, isD_shaped h1, isD_shaped h2, by rw [eqv_pd 40 40 _ _ h1 h2]; exact h⟩
theorem o_eq (hu : X.A.units + 64 < cLine) : OpR X (compareOp .Eq) (low2 X cEq) := by
  intro pins s σ H x y v u Q I rx ry h
  obtain ⟨d1, d2, g, Q', r1, r2, R, h, k⟩ := h
  rcases o_eq_core (P := fun c => Q' (.bl c) g) (res_rv R r1) (res_rv R r2) h with ⟨h1, h2⟩ | ⟨d, e, h1, h2, h3, h4, h5⟩
  · exact op_eq pins s σ H x y v u Q I rx ry ⟨h1, k _ _ _ _ .bl Ext.refl R h2⟩
  · exact op_eqD hu pins s σ H x y v u Q I rx ry ⟨d, e, h1, h2, h3, h4, k _ _ _ _ .bl Ext.refl R h5⟩
theorem o_ne (hu : X.A.units + 64 < cLine) : OpR X (compareOp .NotEq) (low2 X cNe) := by
  intro pins s σ H x y v u Q I rx ry h
  obtain ⟨d1, d2, g, Q', r1, r2, R, h, k⟩ := h
  rcases o_eq_core (P := fun c => Q' (.bl (!c)) g) (res_rv R r1) (res_rv R r2) h with ⟨h1, h2⟩ | ⟨d, e, h1, h2, h3, h4, h5⟩
  · exact op_ne pins s σ H x y v u Q I rx ry ⟨h1, k _ _ _ _ .bl Ext.refl R h2⟩
  · exact op_neD hu pins s σ H x y v u Q I rx ry ⟨d, e, h1, h2, h3, h4, k _ _ _ _ .bl Ext.refl R h5⟩
def isN : T → Bool
  | .non => true
  | _ => false
theorem isN_v {g : G} {H : Hp} {d : T} {x : V} (r : TV X.prog X.w X.K g H d x) : decide (x = .non) = isN d := by
  cases r <;> simp [isN]
def cIsN : Q2 := fun a b g Q => match b with
  | .non => Q (.bl (isN a)) g
  | _ => False
def cNotN : Q2 := fun a b g Q => match b with
  | .non => Q (.bl (!isN a)) g
  | _ => False
theorem o_isN : OpR X (compareOp .Is) (low2 X cIsN) := OpR.imp op_isN fun x y H Q ⟨d1, d2, g, Q', r1, r2, R, h, k⟩ => by
  unfold cIsN at h
  split at h
  · cases r2; exact ⟨rfl, k _ _ _ _ .bl Ext.refl R (by rw [isN_v r1]; exact h)⟩
  · exact h.elim
theorem o_notN : OpR X (compareOp .IsNot) (low2 X cNotN) := OpR.imp op_notN fun x y H Q ⟨d1, d2, g, Q', r1, r2, R, h, k⟩ => by
  unfold cNotN at h
  split at h
  · cases r2; exact ⟨rfl, k _ _ _ _ .bl Ext.refl R (by rw [isN_v r1]; exact h)⟩
  · exact h.elim

/-! ### in -/
def chr1 (x : Str) : Option Nat := match x.cps.toList with
  | [c] => some c
  | _ => none
theorem chr1_eq {x : Str} {c : Nat} (h : chr1 x = some c) : x = ⟨#[c]⟩ := by
  obtain ⟨⟨l⟩⟩ := x
  unfold chr1 at h
  match l, h with
  | [c'], h =>
    have : c' = c := by simpa using h
    subst this; rfl
  | [], h => simp at h
  | _ :: _ :: _, h => simp at h
/-- x in y, y as it is -/
def cInV (x y : T) (k : Bool → Prop) : Prop := match y with
  | .str z => (match x with
    | .str a => (match chr1 a with
      | some c => k (decide (c ∈ z.cps.toList))
      | none => False)
    | _ => False)
  | .lst ts => isD x = true ∧ isDs 38 ts = true ∧ k (ts.any fun t => eqb t x)
  | .tup ts => isD x = true ∧ isDs 38 ts = true ∧ k (ts.any fun t => eqb t x)
  | .dct kvs => kOk kvs x = true ∧ k (look kvs x).isSome
  | _ => False
def cIn : Q2 := fun a b g Q => cInV (res g a) (res g b) fun c => Q (.bl c) g
def cNotIn : Q2 := fun a b g Q => cInV (res g a) (res g b) fun c => Q (.bl (!c)) g

theorem any_pds (x : T) (n m : Nat) (hx : isDn n x = true) : ∀ ts : List T, isDs m ts = true → ((pds ts).any fun z => PyData.eqv z (pd x)) = ts.any fun t => eqb t x
  | [], _ => rfl
  | t :: ts, h => by
    have h' : isDn m t = true ∧ isDs m ts = true := by simpa [isDs] using h
    simp only [pds, List.any_cons, eqv_pd m n t x h'.1 hx, any_pds x n m hx ts h'.2]
theorem shaped_lst {n : Nat} {ts : List T} (hn : n ≤ 60) (h : isDs n ts = true) : SeqAt.shaped (.list (pds ts)) = true := by
  have q := isDs_lay n ts h
  unfold SeqAt.shaped
  have q2 := q.2
  have q3 : PyData.depthAll (pds ts) + 1 ≤ 64 := by omega
  simp [PyData.canLay0, PyData.depth, q.1, q3]
  try omega
theorem shaped_tup {n : Nat} {ts : List T} (hn : n ≤ 60) (h : isDs n ts = true) : SeqAt.shaped (.tuple (pds ts)) = true := by
  have q := isDs_lay n ts h
  unfold SeqAt.shaped
  have q2 := q.2
  have q3 : PyData.depthAll (pds ts) + 1 ≤ 64 := by omega
  simp [PyData.canLay0, PyData.depth, q.1, q3]
  try omega
/-- the value of a key -/
theorem key_val {g : G} {H : Hp} {k : T} {x : Key} {v : V} (r : TV X.prog X.w X.K g H k v) (e : fk k = some x) : v = kV x := by
  have := fk_key e
  subst this
  cases x <;> (cases r; rfl)
theorem tupK_get {k : T} (h : tupK k = true) : ∃ nk, nkOf k = some nk ∧ nk.depth ≤ 8 := by
  cases k with
  | tup ts =>
    cases e : nkOf (.tup ts) with
    | none => simp [tupK, e] at h
    | some nk => exact ⟨nk, rfl, by simpa [tupK, e] using h⟩
  | _ => simp [tupK] at h
theorem rv_key {g : G} {H : Hp} {d : T} {v : V} (r : RV X.prog X.w X.K g H d v) {kvs : List (T × T)} (h : kOk kvs d = true) : TV X.prog X.w X.K g H d v := by
  cases r with
  | base q => exact q
  | lst a b => simp [kOk, flatK, fk, tupK] at h
  | dct a b => simp [kOk, flatK, fk, tupK] at h
theorem tup_ref {g : G} {H : Hp} {k : T} {v : V} (r : TV X.prog X.w X.K g H k v) (h : tupK k = true) : ∃ a, v = .ref a := by
  cases r <;> first | exact ⟨_, rfl⟩ | simp [tupK] at h
/-- the two ways of a key -/
theorem kOk_or {kvs : List (T × T)} {k : T} (h : kOk kvs k = true) : ((∃ x, fk k = some x) ∧ (kvs.all fun p => flatK p.1) = true) ∨ (tupK k = true ∧ (kvs.all fun p => tupK p.1) = true) := by
  unfold kOk at h
  rw [Bool.or_eq_true, Bool.and_eq_true, Bool.and_eq_true] at h
  rcases h with h | h
  · exact .inl ⟨Option.isSome_iff_exists.mp h.1, h.2⟩
  · exact .inr h
end

section
variable {X : Cx} {pins : List (Addr × Obj)} {σ : L2.St} {H : Hp} {s : Shared} {g : G} {A : Around} {E : Value → Shared → Prop}
/-- what a look-up in a dict comes to -/
theorem dt_in {a : Addr} {u : HO} {kvs : List (T × T)} {k : T} {v : V} {kv : Value} {Q : Value → Shared → Prop} (hu : A.units + 9 < cLine) (I : Inv X pins σ H s) (e : Rd H a u) (d : DR X.prog X.w X.K g H a u kvs) (r : TV X.prog X.w X.K g H k v) (rv : RelV v kv) (ok : kOk kvs k = true)
    (h : ∀ tk, Q (.bool (look kvs k).isSome) { s with toks := tk }) : wpAny (model X.prog X.w) A (compareOp .In kv (.ref a)) Q E s := by
  rcases kOk_or ok with ⟨⟨x, ex⟩, hf⟩ | ⟨ht, hf⟩
  · obtain ⟨⟨ks, vs, q1, q2, dd, hz⟩, hs⟩ := dflat I.hok e d hf
    have := key_val r ex; subst this
    have hk := fk_key ex; subst hk
    refine wpAny_in_of (kV_is rv) hs dd.mapOf ?_
    have z := (q2.val x).isSome_eq
    rw [← z]
    rcases q1.look x with ⟨e1, e2⟩ | ⟨_, _, e1, e2, _⟩ <;> rw [e1] <;> rw [e2] at h <;> exact h _
  · obtain ⟨⟨xs, q1, dd, hz⟩, hs⟩ := dnest I.hok e d hf
    obtain ⟨nk, en, hd⟩ := tupK_get ht
    obtain ⟨b, rfl⟩ := tup_ref r ht
    cases rv
    refine wpAny_in_heap (knd := nestedKind X.prog X.w) (by show A.in1.units + 8 < cLine; show A.units + 1 + 8 < cLine; omega) (⟨TV.nested I.hok _ _ _ _ r en rfl, hd⟩ : (nestedKind X.prog X.w).is s.heap nk b) hs dd ?_
    rcases q1.look en with ⟨e1, e2⟩ | ⟨_, _, _, _, e1, e2, _⟩ <;> rw [e1] <;> rw [e2] at h <;> exact h _
theorem dt_notIn {a : Addr} {u : HO} {kvs : List (T × T)} {k : T} {v : V} {kv : Value} {Q : Value → Shared → Prop} (hu : A.units + 9 < cLine) (I : Inv X pins σ H s) (e : Rd H a u) (d : DR X.prog X.w X.K g H a u kvs) (r : TV X.prog X.w X.K g H k v) (rv : RelV v kv) (ok : kOk kvs k = true)
    (h : ∀ tk, Q (.bool (!(look kvs k).isSome)) { s with toks := tk }) : wpAny (model X.prog X.w) A (compareOp .NotIn kv (.ref a)) Q E s := by
  rcases kOk_or ok with ⟨⟨x, ex⟩, hf⟩ | ⟨ht, hf⟩
  · obtain ⟨⟨ks, vs, q1, q2, dd, hz⟩, hs⟩ := dflat I.hok e d hf
    have := key_val r ex; subst this
    have hk := fk_key ex; subst hk
    refine wpAny_notIn_of (kV_is rv) hs dd.mapOf ?_
    have z := (q2.val x).isSome_eq
    rw [← z]
    rcases q1.look x with ⟨e1, e2⟩ | ⟨_, _, e1, e2, _⟩ <;> rw [e1] <;> rw [e2] at h <;> exact h _
  · obtain ⟨⟨xs, q1, dd, hz⟩, hs⟩ := dnest I.hok e d hf
    obtain ⟨nk, en, hd⟩ := tupK_get ht
    obtain ⟨b, rfl⟩ := tup_ref r ht
    cases rv
    refine wpAny_notIn_heap (knd := nestedKind X.prog X.w) (by show A.in1.units + 8 < cLine; show A.units + 1 + 8 < cLine; omega) (⟨TV.nested I.hok _ _ _ _ r en rfl, hd⟩ : (nestedKind X.prog X.w).is s.heap nk b) hs dd ?_
    rcases q1.look en with ⟨e1, e2⟩ | ⟨_, _, _, _, e1, e2, _⟩ <;> rw [e1] <;> rw [e2] at h <;> exact h _
theorem dt_get {a : Addr} {u : HO} {kvs : List (T × T)} {k t : T} {v : V} {kv : Value} {Q : Value → Shared → Prop} (hu : A.units + 9 < cLine) (I : Inv X pins σ H s) (e : Rd H a u) (d : DR X.prog X.w X.K g H a u kvs) (r : TV X.prog X.w X.K g H k v) (rv : RelV v kv) (ok : kOk kvs k = true)
    (l : look kvs k = some t) (h : ∀ tk tv tu, TV X.prog X.w X.K g H t tv → RelV tv tu → Q tu { s with toks := tk }) : wpAny (model X.prog X.w) A (getItem (.ref a) kv) Q E s := by
  rcases kOk_or ok with ⟨⟨x, ex⟩, hf⟩ | ⟨ht, hf⟩
  · obtain ⟨⟨ks, vs, q1, q2, dd, hz⟩, hs⟩ := dflat I.hok e d hf
    have := key_val r ex; subst this
    have hk := fk_key ex; subst hk
    rcases q1.look x with ⟨e1, e2⟩ | ⟨tv, t', e1, e2, e3⟩
    · rw [l] at e2; cases e2
    · rw [l] at e2; cases e2
      obtain ⟨w', hw, rw'⟩ := RelO.some_of (v := tv) (o := valueAt vs x) (by rw [← e1]; exact q2.val x)
      exact wpAny_getItem_of (kV_is rv) dd.mapOf hw (h _ _ _ e3 rw')
  · obtain ⟨⟨xs, q1, dd, hz⟩, hs⟩ := dnest I.hok e d hf
    obtain ⟨nk, en, hd⟩ := tupK_get ht
    obtain ⟨b, rfl⟩ := tup_ref r ht
    cases rv
    rcases q1.look en with ⟨e1, e2⟩ | ⟨b', u', t', tv, e1, e2, e3, e4⟩
    · rw [l] at e2; cases e2
    · rw [l] at e2; cases e2
      exact wpAny_getItem_heap (knd := nestedKind X.prog X.w) (by show A.in1.units + 8 < cLine; show A.units + 1 + 8 < cLine; omega) (⟨TV.nested I.hok _ _ _ _ r en rfl, hd⟩ : (nestedKind X.prog X.w).is s.heap nk b) dd e1 (h _ _ _ e4 e3)
end

section
variable {X : Cx}
theorem o_in_seq {g : G} {H : Hp} {x : T} {ts : List T} {xv : V} {a : Addr} {xs : List V} (q1 : RV X.prog X.w X.K g H x xv) (h1 : isD x = true) (h2 : isDs 38 ts = true) (hx : TVs X.prog X.w X.K g H ts xs) :
    ∃ d, Dp X.K H xv d ∧ DpAll X.K H xs (pds ts) ∧ SeqAt.shaped d = true ∧ ((pds ts).any fun z => PyData.eqv z d) = ts.any fun t => eqb t x :=
  ⟨pd x, q1.dp X.K h1, hx.dp X.K 38 _ _ h2, isD_shaped h1, any_pds x 40 38 h1 ts h2⟩
theorem o_in (hu : X.A.units + 65 < cLine) : OpR X (compareOp .In) (low2 X cIn) := by
  intro pins s σ H x y v u Q I rx ry h
  obtain ⟨d1, d2, g, Q', r1, r2, R, h, k⟩ := h
  have q1 := res_rv R r1
  have q2 := res_rv R r2
  unfold cIn cInV at h
  split at h
  · rename_i z e2
    rw [e2] at q2
    split at h
    · rename_i a e1
      rw [e1] at q1
      split at h
      · rename_i c ec
        have := chr1_eq ec; subst this
        cases q1 with | base q1 => cases q2 with | base q2 => cases q1; cases q2; exact op_in_sign pins s σ H _ _ v u Q I rx ry ⟨c, z, rfl, rfl, k _ _ _ _ .bl Ext.refl R h⟩
      · exact h.elim
    · exact h.elim
  · rename_i ts e2
    rw [e2] at q2
    obtain ⟨b, xs, rfl, hb, hx⟩ := q2.toLst
    obtain ⟨h1, h2, h3⟩ := h
    obtain ⟨d, z1, z2, z3, z4⟩ := o_in_seq (a := b) q1 h1 h2 hx
    exact op_inD hu pins s σ H _ _ v u Q I rx ry ⟨d, pds ts, z1, .lst (.inl hb) z2, z3, shaped_lst (by decide) h2, k _ _ _ _ .bl Ext.refl R (by rw [z4]; exact h3)⟩
  · rename_i ts e2
    rw [e2] at q2
    obtain ⟨b, xs, rfl, hb, hx⟩ := q2.toTup
    obtain ⟨h1, h2, h3⟩ := h
    obtain ⟨d, z1, z2, z3, z4⟩ := o_in_seq (a := b) q1 h1 h2 hx
    obtain ⟨as, p1⟩ := Dp.reads I d _ v z1 rx
    obtain ⟨bs, p2⟩ := Dp.reads I (.tuple (pds ts)) _ u (.tup (.inl hb) z2) ry
    exact SeqAt.in_tuple_reads p2 p1 (SeqAt.canLay_of_shaped (shaped_tup (by decide) h2)) (SeqAt.canLay_of_shaped z3) (room_in_shaped z3 hu) ⟨.bl _, H, I, rfl, k _ _ _ _ .bl Ext.refl R (by rw [z4]; exact h3)⟩
  · rename_i kvs e2
    rw [e2] at q2
    obtain ⟨b, ho, rfl, hb, hd⟩ := q2.toDct
    cases ry
    obtain ⟨h1, h2⟩ := h
    have r1' := rv_key q1 h1
    exact dt_in (by omega) I hb hd r1' rx h1 fun tk => ⟨.bl _, H, I.tok _, rfl, k _ _ _ _ .bl Ext.refl R h2⟩
  · exact h.elim
end
end TL
set_option Elab.async false
set_option linter.all false
set_option maxRecDepth 100000
set_option maxHeartbeats 4000000
/-! TL6: not in, places, slices, len, isinstance, int, str, tuple, list; methods of lists; stores at places. -/
namespace TL
open PySem PySem.Spec L2 PyProof.Rows

section
variable {X : Cx}
theorem o_notIn (hu : X.A.units + 65 < cLine) : OpR X (compareOp .NotIn) (low2 X cNotIn) := by
  intro pins s σ H x y v u Q I rx ry h
  obtain ⟨d1, d2, g, Q', r1, r2, R, h, k⟩ := h
  have q1 := res_rv R r1
  have q2 := res_rv R r2
  unfold cNotIn cInV at h
  split at h
  · rename_i z e2
    rw [e2] at q2
    split at h
    · rename_i a e1
      rw [e1] at q1
      split at h
      · rename_i c ec
        have := chr1_eq ec; subst this
        cases q1 with | base q1 => cases q2 with | base q2 => cases q1; cases q2; exact op_notIn_sign pins s σ H _ _ v u Q I rx ry ⟨c, z, rfl, rfl, k _ _ _ _ .bl Ext.refl R h⟩
      · exact h.elim
    · exact h.elim
  · rename_i ts e2
    rw [e2] at q2
    obtain ⟨b, xs, rfl, hb, hx⟩ := q2.toLst
    obtain ⟨h1, h2, h3⟩ := h
    obtain ⟨d, z1, z2, z3, z4⟩ := o_in_seq (a := b) q1 h1 h2 hx
    exact op_notInD hu pins s σ H _ _ v u Q I rx ry ⟨d, pds ts, z1, .lst (.inl hb) z2, z3, shaped_lst (by decide) h2, k _ _ _ _ .bl Ext.refl R (by rw [z4]; exact h3)⟩
  · rename_i ts e2
    rw [e2] at q2
    obtain ⟨b, xs, rfl, hb, hx⟩ := q2.toTup
    obtain ⟨h1, h2, h3⟩ := h
    obtain ⟨d, z1, z2, z3, z4⟩ := o_in_seq (a := b) q1 h1 h2 hx
    obtain ⟨as, p1⟩ := Dp.reads I d _ v z1 rx
    obtain ⟨bs, p2⟩ := Dp.reads I (.tuple (pds ts)) _ u (.tup (.inl hb) z2) ry
    exact SeqAt.notIn_tuple_reads p2 p1 (SeqAt.canLay_of_shaped (shaped_tup (by decide) h2)) (SeqAt.canLay_of_shaped z3) (room_in_shaped z3 hu) ⟨.bl _, H, I, rfl, k _ _ _ _ .bl Ext.refl R (by rw [z4]; exact h3)⟩
  · rename_i kvs e2
    rw [e2] at q2
    obtain ⟨b, ho, rfl, hb, hd⟩ := q2.toDct
    cases ry
    obtain ⟨h1, h2⟩ := h
    exact dt_notIn (by omega) I hb hd (rv_key q1 h1) rx h1 fun tk => ⟨.bl _, H, I.tok _, rfl, k _ _ _ _ .bl Ext.refl R h2⟩
  · exact h.elim

/-! ### a place -/
def idx {α : Type} (ts : List α) (i : Int) : Option α := match i with
  | .ofNat n => ts[n]?
  | .negSucc n => if n < ts.length then ts[ts.length - 1 - n]? else none
theorem idx_at {α : Type} {ts : List α} {i : Int} {t : α} (h : idx ts i = some t) : atI ts i = some t := by
  unfold idx at h
  cases i with
  | ofNat n => exact atI_nat h
  | negSucc n =>
    simp only at h
    split at h
    · rename_i hn
      unfold atI ixN
      rw [if_neg (by omega), if_pos (by omega)]
      have e : (Int.negSucc n + (ts.length : Int)).toNat = ts.length - 1 - n := by omega
      simp only [Option.bind_some, e]
      exact h
    · cases h
theorem idx_tv {P : Program} {w : World} {K : PySem.W.Frag} {g : G} {H : Hp} {ts : List T} {vs : List V} {i : Int} {t : T} (r : TVs P w K g H ts vs) (h : idx ts i = some t) : ∃ v, idx vs i = some v ∧ TV P w K g H t v := by
  have hl := r.len
  unfold idx at h ⊢
  cases i with
  | ofNat n => exact r.get h
  | negSucc n =>
    simp only at h ⊢
    split at h
    · rename_i hn
      rw [← hl, if_pos hn]
      exact r.get h
    · cases h
def ixV (x i : T) (k : T → Prop) : Prop := match x, i with
  | .tup ts, .int j => (match idx ts j with
    | some t => k t
    | none => False)
  | .lst ts, .int j => (match idx ts j with
    | some t => k t
    | none => False)
  | .scr ns, .int j => (match idx ns j with
    | some n => k (.int n)
    | none => False)
  | .str z, .int j => z.length ≤ sizeLine ∧ (match idx z.cps.toList j with
    | some c => k (.str ⟨#[c]⟩)
    | none => False)
  | .dct kvs, i => kOk kvs i = true ∧ (match look kvs i with
    | some t => k t
    | none => False)
  | _, _ => False
def aIx : Q2 := fun x i g Q => ixV (res g x) (res g i) fun t => Q t g
theorem o_ix (hu : X.A.units + 9 < cLine) : IxR X (low2 X aIx) := by
  intro value slice pins s σ H x y v u Q I rx ry h hs
  obtain ⟨d1, d2, g, Q', r1, r2, R, h, k⟩ := h
  have q1 := res_rv R r1
  have q2 := res_rv R r2
  unfold aIx ixV at h
  split at h
  · rename_i ts j e1 e2
    rw [e1] at q1; rw [e2] at q2
    obtain ⟨a, xs, rfl, ha, hx⟩ := q1.toTup
    split at h
    · rename_i t et
      cases q2 with | base q2 => cases q2; obtain ⟨tv, h1, h2⟩ := idx_tv hx et; exact ix_tup value slice pins s σ H _ _ v u Q I rx ry ⟨a, xs, j, tv, rfl, rfl, .inl ha, idx_at h1, k _ _ _ _ h2 Ext.refl R h⟩ hs
    · exact h.elim
  · rename_i ts j e1 e2
    rw [e1] at q1; rw [e2] at q2
    obtain ⟨a, xs, rfl, ha, hx⟩ := q1.toLst
    split at h
    · rename_i t et
      cases q2 with | base q2 => cases q2; obtain ⟨tv, h1, h2⟩ := idx_tv hx et; exact ix_list value slice pins s σ H _ _ v u Q I rx ry ⟨a, xs, j, tv, rfl, rfl, .inl ha, idx_at h1, k _ _ _ _ h2 Ext.refl R h⟩ hs
    · exact h.elim
  · rename_i ns j e1 e2
    rw [e1] at q1; rw [e2] at q2
    split at h
    · rename_i n et
      have ex : ∀ ms : List Int, idx ms j = some n → idx (ms.map V.int) j = some (.int n) := fun ms h => by
        unfold idx at h ⊢
        cases j with
        | ofNat m => simp only at h ⊢; rw [List.getElem?_map, h]; rfl
        | negSucc m =>
          simp only [List.length_map] at h ⊢
          split at h
          · rename_i hm; rw [if_pos hm, List.getElem?_map, h]; rfl
          · cases h
      cases q2 with
      | base q2 =>
        cases q2
        cases q1 with
        | base q1 =>
          cases q1 with
          | @scr a _ h1 h2 => exact ix_list value slice pins s σ H _ _ v u Q I rx ry ⟨a, _, j, _, rfl, rfl, .inl h2, idx_at (ex _ et), k _ _ _ _ .int Ext.refl R h⟩ hs
          | @scrK a _ h1 => exact ix_list value slice pins s σ H _ _ v u Q I rx ry ⟨a, _, j, _, rfl, rfl, .inr h1, idx_at (ex _ et), k _ _ _ _ .int Ext.refl R h⟩ hs
    · exact h.elim
  · rename_i z j e1 e2
    rw [e1] at q1; rw [e2] at q2
    obtain ⟨hz, h⟩ := h
    split at h
    · rename_i c et
      cases q1 with | base q1 => cases q2 with | base q2 => cases q1; cases q2; exact ix_str value slice pins s σ H _ _ v u Q I rx ry ⟨z, j, c, rfl, rfl, hz, idx_at et, k _ _ _ _ .str Ext.refl R h⟩ hs
    · exact h.elim
  · rename_i kvs e1
    rw [e1] at q1
    obtain ⟨a, ho, rfl, ha, hd⟩ := q1.toDct
    obtain ⟨ok, h⟩ := h
    split at h
    · rename_i t et
      cases rx
      obtain ⟨o, es, ep, ho1, ho2, _⟩ := dict_obj I.hok ha hd
      exact tail_any (show s.TypeIs (.ref a) "dict" from ⟨o, ho1, ho2.1⟩) PySem.F.slot_dict_getitem.lookup (dt_get hu I ha hd (rv_key q2 ok) ry ok et fun tk tv tu h1 h2 => ⟨tv, H, I.tok _, h2, k _ _ _ _ h1 Ext.refl R h⟩) hs
    · exact h.elim
  · exact h.elim
theorem q_ix {a b : Expr} {ta tb : QE} {pos : Pos} (hu : X.A.units + 9 < cLine) (ha : PE X a (lowE X ta)) (hb : PE X b (lowE X tb)) (hs : PlainIx b := by exact fun _ _ => rfl) : PE X (.Subscript a b pos) (lowE X (qOp aIx ta tb)) := by
  refine PE.imp (pe_ix (o_ix hu) ha hb hs) fun σ H Q ⟨δ, g, Q', S, R, h, k⟩ => ?_
  exact low_bin S R h fun d1 d2 g' v1 v2 H' r1 r2 e R2 h2 => ⟨d1, d2, g', Q', r1, r2, R2, h2, k.ext e⟩

/-! ### slices -/
abbrev QO := TSt → G → (Option Int → G → Prop) → Prop
def lowO (X : Cx) (t : QO) : TO := fun σ H Q => ∃ δ g Q', StR X.prog X.w X.K g H δ σ ∧ RG X.prog X.w X.K g H ∧ t δ g Q' ∧ ∀ o g' H', Ext g H g' H' → RG X.prog X.w X.K g' H' → Q' o g' → Q o H'
def qNoPart : QO := fun _ g Q => Q none g
def qPart (t : QE) : QO := fun δ g Q => t δ g fun d g1 => match d with
  | .int i => Q (some i) g1
  | _ => False
theorem q_no : PO X none (lowO X qNoPart) := ⟨fun pins s σ H Q I ⟨δ, g, Q', S, R, h, k⟩ => po_none.run pins s σ H Q I (k _ _ _ Ext.refl R h)⟩
theorem q_part {e : Expr} {t : QE} (h : PE X e (lowE X t)) : PO X (some e) (lowO X (qPart t)) := ⟨fun pins s σ H Q I ⟨δ, g, Q', S, R, h', k⟩ => (po_some h).run pins s σ H Q I ⟨δ, g, _, S, R, h', fun d g1 v H1 r e R1 q => by
  cases r with
  | int => exact ⟨_, rfl, k _ _ _ e R1 q⟩
  | _ => exact q.elim⟩⟩
def cutT {α : Type} (xs : List α) (lo hi : Option Int) : List α := (xs.drop (HT.sIx xs.length 0 lo)).take (HT.sIx xs.length xs.length hi - HT.sIx xs.length 0 lo)
theorem cutT_len {α : Type} (xs : List α) (lo hi : Option Int) : (cutT xs lo hi).length ≤ xs.length := by
  unfold cutT
  rw [List.length_take, List.length_drop]
  omega
theorem cutT_tv {P : Program} {w : World} {K : PySem.W.Frag} {g : G} {H : Hp} {ts : List T} {vs : List V} {lo hi : Option Int} (r : TVs P w K g H ts vs) : TVs P w K g H (cutT ts lo hi) (cutV vs lo hi) := by
  unfold cutT cutV
  rw [r.len]
  exact (r.drop _).take _
/-- x[lo:hi] -/
def slV (x : T) (lo hi : Option Int) (g : G) (Q : K1) : Prop := match res g x with
  | .tup ts => ¬ (HT.sIx ts.length 0 lo = 0 ∧ HT.sIx ts.length ts.length hi = ts.length) ∧ Q (.tup (cutT ts lo hi)) g
  | .lst ts => ∀ p, g p = none → Q (.ref p) (gput g p (.lst (cutT ts lo hi)))
  | .str z => z.length ≤ sizeLine ∧ Q (.str (cutS z lo hi)) g
  | _ => False
def lowSl (X : Cx) : V → Option Int → Option Int → Hp → VK → Prop := fun x lo hi H Q => ∃ d g Q', TV X.prog X.w X.K g H d x ∧ RG X.prog X.w X.K g H ∧ slV d lo hi g Q' ∧ KE X g H Q' Q
theorem sl_all : SlR X (lowSl X) := by
  intro pins s σ H x v vl vu lo hi sl Q I rx hs pl pu h
  obtain ⟨d, g, Q', r, R, h, k⟩ := h
  have q := res_rv R r
  unfold slV at h
  split at h
  · rename_i ts e
    rw [e] at q
    obtain ⟨a, xs, rfl, ha, hx⟩ := q.toTup
    refine sl_tup pins s σ H _ v vl vu lo hi sl Q I rx hs pl pu ⟨a, xs, rfl, .inl ha, by rw [← hx.len]; exact h.1, fun p hp => ?_⟩
    exact k _ _ _ _ (.tup (R.fresh hp) (.inl upd_same) ((cutT_tv hx).mono (Ext.new hp).stay)) (Ext.new hp) (R.new hp) h.2
  · rename_i ts e
    rw [e] at q
    obtain ⟨a, xs, rfl, ha, hx⟩ := q.toLst
    refine sl_list pins s σ H _ v vl vu lo hi sl Q I rx hs pl pu ⟨a, xs, rfl, .inl ha, fun p hp => ?_⟩
    exact k _ _ _ _ .ref (Ext.newG hp) (R.newG hp (.lst upd_same ((cutT_tv hx).mono (Ext.newG hp).stay))) (h p (R.fresh hp))
  · rename_i z e
    rw [e] at q
    cases q with | base q => cases q; exact sl_str pins s σ H _ v vl vu lo hi sl Q I rx hs pl pu ⟨z, rfl, h.1, k _ _ _ _ .str Ext.refl R h.2⟩
  · exact h.elim
def qSl (te : QE) (tl th : QO) : QE := fun δ g Q => te δ g fun x g1 => tl δ g1 fun l g2 => th δ g2 fun u g3 => slV x l u g3 Q
theorem q_slice {e : Expr} {lo hi : Option Expr} {p2 pos : Pos} {te : QE} {tl th : QO} (he : PE X e (lowE X te)) (hl : PO X lo (lowO X tl)) (hu : PO X hi (lowO X th)) : PE X (.Subscript e (.Slice lo hi none p2) pos) (lowE X (qSl te tl th)) := by
  refine PE.imp (pe_slice sl_all he hl hu) fun σ H Q ⟨δ, g, Q', S, R, h, k⟩ => ⟨δ, g, _, S, R, h, fun d g1 v H1 r e1 R1 q => ?_⟩
  refine ⟨δ, g1, _, S.mono e1.stay, R1, q, fun l g2 H2 e2 R2 q => ?_⟩
  refine ⟨δ, g2, _, S.mono (e1.trans e2).stay, R2, q, fun u g3 H3 e3 R3 q => ?_⟩
  exact ⟨d, g3, Q', r.mono (e2.trans e3).stay, R3, q, k.ext ((e1.trans e2).trans e3)⟩

/-! ### the step that makes a changeable list or dict a frozen one -/
def qFrz (t : QE) : QE := fun δ g Q => t δ g fun d g1 => match d with
  | .ref a => (match g1 a with
    | some (.lst ts) => Q (.lst ts) (gdel g1 a)
    | some (.dct kvs) => Q (.dct kvs) (gdel g1 a)
    | _ => Q (.ref a) g1)
  | d => Q d g1
theorem frz_lst {g : G} {H : Hp} {a : Addr} {ts : List T} (R : RG X.prog X.w X.K g H) (e : g a = some (.lst ts)) : TV X.prog X.w X.K (gdel g a) H (.lst ts) (.ref a) := by
  cases R a _ e with
  | lst h1 h2 => exact .lst gdel_same (.inl h1) (h2.mono (Ext.stay (Sub.ext sub_del)))
theorem frz_dct {g : G} {H : Hp} {a : Addr} {kvs : List (T × T)} (R : RG X.prog X.w X.K g H) (e : g a = some (.dct kvs)) : TV X.prog X.w X.K (gdel g a) H (.dct kvs) (.ref a) := by
  cases R a _ e with
  | dct h1 h2 => exact .dct gdel_same (.inl h1) (h2.mono (Ext.stay (Sub.ext sub_del)))
theorem q_frz {e : Expr} {t : QE} (h : PE X e (lowE X t)) : PE X e (lowE X (qFrz t)) := by
  refine PE.imp h fun σ H Q ⟨δ, g, Q', S, R, h, k⟩ => ⟨δ, g, _, S, R, h, fun d g1 v H1 r e R1 q => ?_⟩
  cases r with
  | @ref a =>
    simp only at q
    split at q
    · rename_i ts e1
      exact k _ _ _ _ (frz_lst R1 e1) (e.trans (Sub.ext sub_del)) (R1.sub sub_del) q
    · rename_i ts e1
      exact k _ _ _ _ (frz_dct R1 e1) (e.trans (Sub.ext sub_del)) (R1.sub sub_del) q
    · exact k _ _ _ _ .ref e R1 q
  | non => exact k _ _ _ _ .non e R1 q
  | bl => exact k _ _ _ _ .bl e R1 q
  | int => exact k _ _ _ _ .int e R1 q
  | str => exact k _ _ _ _ .str e R1 q
  | ty => exact k _ _ _ _ .ty e R1 q
  | tup a b c => exact k _ _ _ _ (.tup a b c) e R1 q
  | lst a b c => exact k _ _ _ _ (.lst a b c) e R1 q
  | dct a b c => exact k _ _ _ _ (.dct a b c) e R1 q
  | scr a b => exact k _ _ _ _ (.scr a b) e R1 q
  | scrK a => exact k _ _ _ _ (.scrK a) e R1 q

/-! ### built-in calls -/
def qCB (r : QC) (t : QA) : QE := fun δ g Q => t δ g fun ds g1 => r ds g1 Q
variable {x : Str} {p pos : Pos} {e : Expr} {es : List Expr} {t : QA} {id T' : String} {r : QC}
theorem q_callB (hc : CallR X (.builtin id) (lowC X r)) (hg : Gl X x) (hm : X.mg x = none) (hv : bootBuiltins x = some (.builtin id)) (ha : PA X (e :: es) (lowA X t)) (hn : x ≠ "__name__" := by decide) (hdb : (x == ("__debug__" : Str)) = false := by decide)
    (he : starEach (e :: es) X.env = (false, eval e X.env) :: starEach es X.env := by rfl) (hpl : (backTo pos (starEach es X.env)).any (·.1) = false := by rfl) : PE X (.Call (.Name x p) (e :: es) [] pos) (lowE X (qCB r t)) :=
  PE.imp (pe_callB hc hg hm hv ha hn hdb he hpl) fun σ H Q ⟨δ, g, Q', S, R, h, k⟩ => ⟨δ, g, _, S, R, h, fun ds g1 vs H1 rv e R1 q => ⟨ds, g1, Q', rv, R1, q, k.ext e⟩⟩
theorem q_callTy (hc : CallR X (.type T') (lowC X r)) (hg : Gl X x) (hm : X.mg x = none) (hv : bootBuiltins x = some (.type T')) (ha : PA X (e :: es) (lowA X t)) (hn : x ≠ "__name__" := by decide) (hdb : (x == ("__debug__" : Str)) = false := by decide)
    (he : starEach (e :: es) X.env = (false, eval e X.env) :: starEach es X.env := by rfl) (hpl : (backTo pos (starEach es X.env)).any (·.1) = false := by rfl) : PE X (.Call (.Name x p) (e :: es) [] pos) (lowE X (qCB r t)) :=
  PE.imp (pe_callTy hc hg hm hv ha hn hdb he hpl) fun σ H Q ⟨δ, g, Q', S, R, h, k⟩ => ⟨δ, g, _, S, R, h, fun ds g1 vs H1 rv e R1 q => ⟨ds, g1, Q', rv, R1, q, k.ext e⟩⟩
def c1 (f : T → G → K1 → Prop) : QC := fun ds g Q => match ds with
  | [d] => f d g Q
  | _ => False
def c2 (f : T → T → G → K1 → Prop) : QC := fun ds g Q => match ds with
  | [d, d'] => f d d' g Q
  | _ => False
theorem low_c1 {f : T → G → K1 → Prop} {xs : List V} {H : Hp} {Q : VK} (h : lowC X (c1 f) xs H Q) : ∃ x d g Q', xs = [x] ∧ TV X.prog X.w X.K g H d x ∧ RG X.prog X.w X.K g H ∧ f d g Q' ∧ KE X g H Q' Q := by
  obtain ⟨ds, g, Q', r, R, h, k⟩ := h
  unfold c1 at h
  split at h
  · cases r with | cons r rr => cases rr; exact ⟨_, _, g, Q', rfl, r, R, h, k⟩
  · exact h.elim
theorem low_c2 {f : T → T → G → K1 → Prop} {xs : List V} {H : Hp} {Q : VK} (h : lowC X (c2 f) xs H Q) : ∃ x y d d' g Q', xs = [x, y] ∧ TV X.prog X.w X.K g H d x ∧ TV X.prog X.w X.K g H d' y ∧ RG X.prog X.w X.K g H ∧ f d d' g Q' ∧ KE X g H Q' Q := by
  obtain ⟨ds, g, Q', r, R, h, k⟩ := h
  unfold c2 at h
  split at h
  · cases r with | cons r rr => cases rr with | cons r' rr => cases rr; exact ⟨_, _, _, _, g, Q', rfl, r, r', R, h, k⟩
  · exact h.elim
/-- len -/
def lenV (x : T) (k : Nat → Prop) : Prop := match x with
  | .tup ts => k ts.length
  | .lst ts => k ts.length
  | .scr ts => k ts.length
  | .dct kvs => k kvs.length
  | .str z => z.length ≤ sizeLine ∧ k z.length
  | _ => False
def bLen : QC := c1 fun d g Q => lenV (res g d) fun n => Q (.int (n : Nat)) g
theorem b_len : CallR X (.builtin "len") (lowC X bLen) := by
  intro pins s σ H xs us Q I rx h
  obtain ⟨x, d, g, Q', rfl, r, R, hh, k⟩ := low_c1 h
  clear h
  have q := res_rv R r
  unfold lenV at hh
  split at hh
  · rename_i ts e
    rw [e] at q
    obtain ⟨a, xs, rfl, ha, hx⟩ := q.toTup
    exact call_len_seq pins s σ H _ us Q I rx ⟨a, xs, rfl, .inr (.inl ha), by rw [← hx.len]; exact k _ _ _ _ .int Ext.refl R hh⟩
  · rename_i ts e
    rw [e] at q
    obtain ⟨a, xs, rfl, ha, hx⟩ := q.toLst
    exact call_len_seq pins s σ H _ us Q I rx ⟨a, xs, rfl, .inl (.inl ha), by rw [← hx.len]; exact k _ _ _ _ .int Ext.refl R hh⟩
  · rename_i ns e
    rw [e] at q
    cases q with
    | base q =>
      cases q with
      | @scr a _ h1 h2 => exact call_len_seq pins s σ H _ us Q I rx ⟨a, _, rfl, .inl (.inl h2), by rw [List.length_map]; exact k _ _ _ _ .int Ext.refl R hh⟩
      | @scrK a _ h1 => exact call_len_seq pins s σ H _ us Q I rx ⟨a, _, rfl, .inl (.inr h1), by rw [List.length_map]; exact k _ _ _ _ .int Ext.refl R hh⟩
  · rename_i kvs e
    rw [e] at q
    obtain ⟨a, ho, rfl, ha, hd⟩ := q.toDct
    obtain ⟨u, rfl, ru⟩ := rx.one
    cases ru
    obtain ⟨o, es, ep, h1, h2, h3, h4, h5, h6⟩ := dict_obj I.hok ha hd
    refine call_len_slot (n := kvs.length) (show s.TypeIs (.ref a) "dict" from ⟨o, h1, h2.1⟩) PySem.F.slot_dict_len (fun Q' hq => ?_) (by omega) (by rw [sizeLine_eq] at h6; omega) ⟨.int _, H, I.tok _, ⟨_, rfl⟩, k _ _ _ _ .int Ext.refl R hh⟩
    refine PySem.call_len_raw h5 ⟨o, h1, h2, h3⟩ ?_
    rw [h4]
    exact hq
  · rename_i z e
    rw [e] at q
    cases q with | base q => cases q; exact call_len_str pins s σ H _ us Q I rx ⟨z, rfl, hh.1, k _ _ _ _ .int Ext.refl R hh.2⟩
  · exact hh.elim
end
end TL
set_option Elab.async false
set_option linter.all false
set_option maxRecDepth 100000
set_option maxHeartbeats 4000000
/-! TL7: isinstance, int, str, tuple, list, all, any, sum; dicts written; methods. -/
namespace TL
open PySem PySem.Spec L2 PyProof.Rows

section
variable {X : Cx}
/-! ### kinds -/
def tyN : T → Option String
  | .non => some "NoneType"
  | .bl _ => some "bool"
  | .int _ => some "int"
  | .str _ => some "str"
  | .tup _ => some "tuple"
  | .lst _ => some "list"
  | .scr _ => some "list"
  | .dct _ => some "dict"
  | _ => none
theorem kit_rv {pins : List (Addr × Obj)} {σ : L2.St} {H : Hp} {s : Shared} {g : G} {d : T} {v : V} {u : Value} {n : String} (I : Inv X pins σ H s) (r : RV X.prog X.w X.K g H d v) (ru : RelV v u) (e : tyN d = some n) :
    ∃ P : Heap → Prop, PySem.W.KitX X.K u (.type n) P ∧ P s.heap ∧ u ≠ .builtin "__main__.__loader__#opaque" := by
  have fin : ∀ {v : V}, TyX X.K H v (.type n) → RelV v u → ∃ P : Heap → Prop, PySem.W.KitX X.K u (.type n) P ∧ P s.heap ∧ u ≠ .builtin "__main__.__loader__#opaque" := fun ty ru => kit_of I ru ty
  cases d with
  | non => cases r with | base r => cases r; cases e; exact fin (.base .non) ru
  | bl b => cases r with | base r => cases r; cases e; exact fin (.base (.bl b)) ru
  | int b => cases r with | base r => cases r; cases e; exact fin (.base (.int b)) ru
  | str b => cases r with | base r => cases r; cases e; exact fin (.base (.str b)) ru
  | tup ts =>
    cases e
    obtain ⟨a, xs, rfl, ha, _⟩ := r.toTup
    rcases ha with ha | ⟨o, ha⟩
    · exact fin (.base (.tup ha)) ru
    · exact fin (.fTuple ha) ru
  | lst ts =>
    cases e
    obtain ⟨a, xs, rfl, ha, _⟩ := r.toLst
    rcases ha with ha | ⟨o, ha⟩
    · exact fin (.base (.lst ha)) ru
    · exact fin (.base (.frz ha)) ru
  | scr ns =>
    cases e
    cases r with
    | base r =>
      cases r with
      | scr h1 h2 =>
        rcases h2 with ha | ⟨o, ha⟩
        · exact fin (.base (.lst ha)) ru
        · exact fin (.base (.frz ha)) ru
      | scrK h => obtain ⟨o, its, k, h1, h2, _⟩ := h; exact fin (.kList h1 h2) ru
  | dct kvs =>
    cases e
    obtain ⟨a, ho, rfl, ha, hd⟩ := r.toDct
    cases ru
    obtain ⟨o, es, ep, h1, h2, _⟩ := dict_obj I.hok ha hd
    exact ⟨_, PySem.W.kitx_dict, ⟨o, h1, h2.1⟩, fun z => nomatch z⟩
  | ref a => cases e
  | ty a => cases e
def isStr : T → Bool
  | .str _ => true
  | _ => false
def isInt : T → Bool
  | .int _ => true
  | .bl _ => true
  | _ => false
def isBool : T → Bool
  | .bl _ => true
  | _ => false
def isTup : T → Bool
  | .tup _ => true
  | _ => false
def isLst : T → Bool
  | .lst _ => true
  | .scr _ => true
  | _ => false
def bIsi (n : String) (f : T → Bool) : QC := c2 fun d c g Q => (tyN (res g d)).isSome = true ∧ c = .ty n ∧ Q (.bl (f (res g d))) g
theorem b_isi {n : String} {f : T → Bool} (hf : ∀ d t, tyN d = some t → kitB t n = some (f d)) : CallR X (.builtin "isinstance") (lowC X (bIsi n f)) := by
  intro pins s σ H xs us Q I rx h
  obtain ⟨x, y, d, d', g, Q', rfl, r, r', R, hh, k⟩ := low_c2 h
  obtain ⟨h1, rfl, h3⟩ := hh
  obtain ⟨u1, u2, rfl, q1, q2⟩ := rx.two
  cases r'
  cases q2
  obtain ⟨t, ht⟩ := Option.isSome_iff_exists.mp h1
  obtain ⟨P, Z, p, hx⟩ := kit_rv I (res_rv R r) q1 ht
  exact PySem.W.kia_one Z I.kIn p (kit_ty (hf _ _ ht)) hx fun tk => ⟨.bl _, H, I.tok tk, rfl, k _ _ _ _ .bl Ext.refl R h3⟩
theorem b_isStr : CallR X (.builtin "isinstance") (lowC X (bIsi "str" isStr)) := b_isi fun d t e => by cases d <;> cases e <;> (simp only [isStr]; decide +kernel)
theorem b_isInt : CallR X (.builtin "isinstance") (lowC X (bIsi "int" isInt)) := b_isi fun d t e => by cases d <;> cases e <;> (simp only [isInt]; decide +kernel)
theorem b_isBool : CallR X (.builtin "isinstance") (lowC X (bIsi "bool" isBool)) := b_isi fun d t e => by cases d <;> cases e <;> (simp only [isBool]; decide +kernel)
theorem b_isTup : CallR X (.builtin "isinstance") (lowC X (bIsi "tuple" isTup)) := b_isi fun d t e => by cases d <;> cases e <;> (simp only [isTup]; decide +kernel)
theorem b_isLst : CallR X (.builtin "isinstance") (lowC X (bIsi "list" isLst)) := b_isi fun d t e => by cases d <;> cases e <;> (simp only [isLst]; decide +kernel)

/-! ### int, str, tuple, list -/
def bInt : QC := c1 fun d g Q => match d with
  | .int i => Q (.int i) g
  | .bl b => Q (.int (if b then 1 else 0)) g
  | _ => False
theorem b_int : CallR X (.type "int") (lowC X bInt) := CallR.imp call_int1 fun xs H Q h => by
  obtain ⟨x, d, g, Q', rfl, r, R, hh, k⟩ := low_c1 h
  cases r with
  | int => exact .inl ⟨_, rfl, k _ _ _ _ .int Ext.refl R hh⟩
  | bl => exact .inr ⟨_, rfl, k _ _ _ _ .int Ext.refl R hh⟩
  | _ => exact hh.elim
def bStr : QC := c1 fun d g Q => match d with
  | .int i => i.natAbs.log2 < 1920 ∧ Q (.str (toString i)) g
  | _ => False
theorem b_str : CallR X (.type "str") (lowC X bStr) := CallR.imp call_str_int fun xs H Q h => by
  obtain ⟨x, d, g, Q', rfl, r, R, hh, k⟩ := low_c1 h
  cases r with
  | int => exact ⟨_, rfl, hh.1, k _ _ _ _ .str Ext.refl R hh.2⟩
  | _ => exact hh.elim
def bTup : QC := c1 fun d g Q => match res g d with
  | .lst ts => Q (.tup ts) g
  | .tup ts => Q (.tup ts) g
  | _ => False
theorem b_tup : CallR X (.type "tuple") (lowC X bTup) := by
  refine CallR.imp call_tuple_of fun xs H Q h => ?_
  obtain ⟨x, d, g, Q', rfl, r, R, hh, k⟩ := low_c1 h
  have q := res_rv R r
  split at hh
  · rename_i ts e
    rw [e] at q
    obtain ⟨a, xs, rfl, ha, hx⟩ := q.toLst
    refine ⟨a, xs, rfl, .inl ⟨.inl ha, fun p hp => ?_⟩⟩
    exact k _ _ _ _ (.tup (R.fresh hp) (.inl upd_same) (hx.mono (Ext.new hp).stay)) (Ext.new hp) (R.new hp) hh
  · rename_i ts e
    rw [e] at q
    obtain ⟨a, xs, rfl, ha, hx⟩ := q.toTup
    cases q with | base q => exact ⟨a, xs, rfl, .inr ⟨.inl ha, k _ _ _ _ q Ext.refl R hh⟩⟩
  · exact hh.elim

theorem kvs_ent {P : Program} {w : World} {K : PySem.W.Frag} {g : G} {H : Hp} : ∀ {kvs : List (T × T)} {ks : List (Key × V)} {vs : List (Key × Value)} {l : List DictEntry} {i : Nat} {k t : T}, KVs P w K g H kvs ks → KV ks vs → Pairs (mixKind P w) l vs → kvs[i]? = some (k, t) →
    ∃ en kv tv, l[i]? = some en ∧ RelV kv en.key ∧ TV P w K g H k kv ∧ RelV tv en.val ∧ TV P w K g H t tv
  | _, _, _, _, _, _, _, .nil, _, _, e => by simp at e
  | _, _, _, _, i, k, t, .cons (k := k0) (v := v0) r0 a, b, c, e => by
    cases b with
    | cons b1 b2 =>
      cases c with
      | cons c1 c2 c3 =>
        cases i with
        | zero =>
          simp at e
          obtain ⟨rfl, rfl⟩ := e
          obtain ⟨b3, b4⟩ := b1
          simp only at b3 b4
          rw [← b3] at c1
          refine ⟨_, kV k0, v0, rfl, relV_key c1, ?_, by rw [c2]; exact b4, r0⟩
          cases k0 <;> constructor
        | succ i =>
          have q := kvs_ent (i := i) (k := k) (t := t) a b2 c3 (by simpa using e)
          simpa using q
theorem nvs_ent {P : Program} {w : World} {K : PySem.W.Frag} {g : G} {H : Hp} : ∀ {kvs : List (T × T)} {xs : List (NestedKey × Addr × Value)} {i : Nat} {k t : T}, NVs P w K g H kvs xs → kvs[i]? = some (k, t) →
    ∃ en kv tv, (xs.map (entryOfKey (nestedKind P w)))[i]? = some en ∧ RelV kv en.key ∧ TV P w K g H k kv ∧ RelV tv en.val ∧ TV P w K g H t tv
  | _, _, _, _, _, .nil, e => by simp at e
  | _, _, i, k, t, .cons (b := b0) (v := v0) a1 a2 a3 a4 a5 a6, e => by
    cases i with
    | zero =>
      simp at e
      obtain ⟨rfl, rfl⟩ := e
      exact ⟨_, .ref b0, v0, rfl, (show Value.ref b0 = Value.ref b0 from rfl), a2, a4, a5⟩
    | succ i =>
      have q := nvs_ent (i := i) (k := k) (t := t) a6 (by simpa using e)
      simpa using q
/-- the entries of a dict -/
theorem dict_ent {P : Program} {w : World} {K : PySem.W.Frag} {g : G} {H : Hp} {h : Heap} {a : Addr} {u : HO} {kvs : List (T × T)} (ok : HOk P w H h) (e : Rd H a u) (d : DR P w K g H a u kvs) :
    ∃ es ep, h.DictRaw a es ep ∧ es.size = kvs.length ∧ (a == sysModules) = false ∧ kvs.length ≤ sizeLine ∧
      ∀ (i : Nat) (k t : T), kvs[i]? = some (k, t) → ∃ en kv tv, es[i]? = some en ∧ RelV kv en.key ∧ TV P w K g H k kv ∧ RelV tv en.val ∧ TV P w K g H t tv := by
  cases d with
  | k x =>
    obtain ⟨z, hd, vs, rel, ⟨o, es, ep, h1, h2, h3, h4, h5, h6⟩⟩ := dk_rd ok e
    have hz : es.size = vs.length := by rw [← Array.length_toList]; exact h5.length
    refine ⟨es, ep, ⟨o, h1, h2, h3⟩, by rw [x.len, rel.length, hz], hd, by rw [x.len]; exact z, fun i k t hk => ?_⟩
    obtain ⟨en, kv, tv, q1, q2⟩ := kvs_ent x rel h5 hk
    exact ⟨en, kv, tv, by rw [← Array.getElem?_toList]; exact q1, q2⟩
  | n x =>
    obtain ⟨⟨o, es, ep, h1, h2, h3, h4, h5⟩, z, hd⟩ := dn_raw ok e
    refine ⟨es, ep, ⟨o, h1, h2, h3⟩, by rw [x.len, ← Array.length_toList, h4, List.length_map], hd, by rw [x.len]; exact z, fun i k t hk => ?_⟩
    obtain ⟨en, kv, tv, q1, q2⟩ := nvs_ent x hk
    exact ⟨en, kv, tv, by rw [← Array.getElem?_toList, h4]; exact q1, q2⟩
/-- a list of such values -/
theorem vals_of {P : Program} {w : World} {K : PySem.W.Frag} {g : G} {H : Hp} : ∀ (ts : List T) (us : List Value), ts.length = us.length → (∀ (i : Nat) (t : T) (u : Value), ts[i]? = some t → us[i]? = some u → ∃ v, RelV v u ∧ TV P w K g H t v) → ∃ vs, Vals vs us ∧ TVs P w K g H ts vs
  | [], [], _, _ => ⟨[], .nil, .nil⟩
  | t :: ts, u :: us, hl, h => by
    obtain ⟨v, h1, h2⟩ := h 0 t u rfl rfl
    obtain ⟨vs, h3, h4⟩ := vals_of ts us (by simpa using hl) fun i t' u' e1 e2 => h (i + 1) t' u' (by simpa using e1) (by simpa using e2)
    exact ⟨v :: vs, .cons h1 h3, .cons h2 h4⟩
  | [], _ :: _, hl, _ => by simp at hl
  | _ :: _, [], hl, _ => by simp at hl
/-- list(x): a new list -/
def bList : QC := c1 fun d g Q => match res g d with
  | .lst ts => ∀ p, g p = none → Q (.ref p) (gput g p (.lst ts))
  | .tup ts => ∀ p, g p = none → Q (.ref p) (gput g p (.lst ts))
  | .dct kvs => ∀ p, g p = none → Q (.ref p) (gput g p (.lst (kvs.map (·.1))))
  | _ => False
theorem new_list {pins : List (Addr × Obj)} {σ : L2.St} {H : Hp} {s : Shared} {g : G} {Q' : K1} {Q : VK} {ts : List T} {vs : List V} {us : List Value} {h' : Heap} {tk c : Nat} (I : Inv X pins σ H s) (R : RG X.prog X.w X.K g H) (k : KE X g H Q' Q) (rv : Vals vs us) (rt : TVs X.prog X.w X.K g H ts vs) (hz : ts.length ≤ sizeLine)
    (kp : ∀ b o, s.heap.get? b = some o → h'.get? b = some o) (hl : h'.get? s.heap.objs.size = some { cls := .type "list", data := .seq us.toArray c }) (hq : ∀ p, g p = none → Q' (.ref p) (gput g p (.lst ts))) :
    EP X pins σ Q (.ref s.heap.objs.size) { s with heap := h', toks := tk } := by
  have hp : H s.heap.objs.size = none := I.fresh
  refine ⟨.ref _, upd H s.heap.objs.size (.lst vs), I.laid (t' := tk) kp (Nat.le_refl _) ⟨by rw [← rt.len]; exact hz, us, c, rv, hl⟩, rfl, ?_⟩
  exact k _ _ _ _ .ref (Ext.newG hp) (R.newG hp (.lst upd_same (rt.mono (Ext.newG hp).stay))) (hq _ (R.fresh hp))
theorem b_list (hc : X.calm = true) : CallR X (.type "list") (lowC X bList) := by
  intro pins s σ H xs us Q I rx h
  obtain ⟨x, d, g, Q', rfl, r, R, hh, k⟩ := low_c1 h
  clear h
  have q := res_rv R r
  split at hh
  · rename_i ts e
    rw [e] at q
    obtain ⟨a, xs, rfl, ha, hx⟩ := q.toLst
    exact call_list_of pins s σ H _ us Q I rx ⟨a, xs, rfl, .inl (.inl ha), fun p hp => k _ _ _ _ .ref (Ext.newG hp) (R.newG hp (.lst upd_same (hx.mono (Ext.newG hp).stay))) (hh p (R.fresh hp))⟩
  · rename_i ts e
    rw [e] at q
    obtain ⟨a, xs, rfl, ha, hx⟩ := q.toTup
    exact call_list_of pins s σ H _ us Q I rx ⟨a, xs, rfl, .inr (.inl ha), fun p hp => k _ _ _ _ .ref (Ext.newG hp) (R.newG hp (.lst upd_same (hx.mono (Ext.newG hp).stay))) (hh p (R.fresh hp))⟩
  · rename_i kvs e
    rw [e] at q
    obtain ⟨a, ho, rfl, ha, hd⟩ := q.toDct
    obtain ⟨u, rfl, ru⟩ := rx.one
    cases ru
    obtain ⟨es, ep, hr, hsz, hs, hz, hen⟩ := dict_ent I.hok ha hd
    refine PySem.W.kdl_call (KdlSrc.rawDict hs) (I.ok.hd hc) hr (by omega) fun h' tk acc c kp hl ho => ?_
    have hal : acc.toList.length = es.size := by
      have := ho.1
      simpa using this
    obtain ⟨vs, h1, h2⟩ := vals_of (P := X.prog) (w := X.w) (K := X.K) (g := g) (H := H) (kvs.map (·.1)) acc.toList (by rw [List.length_map, hal, hsz]) fun i t u e1 e2 => by
      rw [List.getElem?_map] at e1
      cases q0 : kvs[i]? with
      | none => rw [q0] at e1; cases e1
      | some kt =>
        rw [q0] at e1
        obtain ⟨k0, t0⟩ := kt
        obtain rfl : k0 = t := by simpa using e1
        obtain ⟨en, kv, tv, z1, z2, z3, _⟩ := hen i _ _ q0
        obtain ⟨hi, e3⟩ := ho.2 i u (by simpa using e2)
        have : es[i]? = some es[i] := by simp [hi]
        rw [this] at z1
        cases z1
        exact ⟨kv, by rw [e3]; exact z2, z3⟩
    exact new_list (c := c) I R k h1 h2 (by rw [List.length_map]; exact hz) kp (by rw [Array.toArray_toList]; exact hl) hh
  · exact hh.elim
end
end TL
set_option Elab.async false
set_option linter.all false
set_option maxRecDepth 100000
set_option maxHeartbeats 4000000
/-! TL8: methods of lists and dicts, stores at places, all, any, sum, {}. -/
namespace TL
open PySem PySem.Spec L2 PyProof.Rows

section
variable {X : Cx}
/-! ### a method call -/
def isTp (n : String) : T → Bool
  | .str _ => n == "str"
  | .lst _ => n == "list"
  | .scr _ => n == "list"
  | .tup _ => n == "tuple"
  | .dct _ => n == "dict"
  | _ => false
theorem isTp_at {pins : List (Addr × Obj)} {σ : L2.St} {H : Hp} {s : Shared} {g : G} {d : T} {v : V} {u : Value} {n : String} (I : Inv X pins σ H s) (r : RV X.prog X.w X.K g H d v) (ru : RelV v u) (e : isTp n d = true) (nt : n ≠ "tuple") :
    s.TypeIs u n ∧ ∀ a, u = .ref a → ∃ ob, s.heap.get? a = some ob ∧ ob.dict = none := by
  cases d with
  | str z =>
    cases r with
    | base r =>
      cases r
      obtain ⟨t, rfl⟩ := ru
      obtain rfl : n = "str" := by simpa [isTp] using e
      exact ⟨typeIs_str s z t, fun _ e => nomatch e⟩
  | lst ts =>
    obtain ⟨a, xs, rfl, ha, _⟩ := r.toLst
    cases ru
    have : n = "list" := by simpa [isTp] using e
    subst this
    obtain ⟨_, its, k, _, _, ho⟩ := rdl I ha
    exact ⟨⟨_, ho, rfl⟩, fun b q => by cases q; exact ⟨_, ho, rfl⟩⟩
  | tup ts => exact absurd (by simpa [isTp] using e) nt
  | dct kvs =>
    obtain ⟨a, h0, rfl, ha, hd⟩ := r.toDct
    cases ru
    have : n = "dict" := by simpa [isTp] using e
    subst this
    obtain ⟨o, es, ep, h1, h2, _⟩ := dict_obj I.hok ha hd
    exact ⟨⟨o, h1, h2.1⟩, fun b q => by cases q; exact ⟨_, h1, h2.2.1⟩⟩
  | scr ns =>
    have : n = "list" := by simpa [isTp] using e
    subst this
    cases r with
    | base r =>
      cases r with
      | scr _ h =>
        cases ru
        obtain ⟨_, its, k, _, _, ho⟩ := rdl I h
        exact ⟨⟨_, ho, rfl⟩, fun b q => by cases q; exact ⟨_, ho, rfl⟩⟩
      | scrK h =>
        cases ru
        obtain ⟨o, its, k, h1, h2, h3, _⟩ := h
        exact ⟨⟨o, I.kIn _ _ h1, h2⟩, fun b q => by cases q; exact ⟨_, I.kIn _ _ h1, h3⟩⟩
  | non => simp [isTp] at e
  | bl _ => simp [isTp] at e
  | int _ => simp [isTp] at e
  | ref _ => simp [isTp] at e
  | ty _ => simp [isTp] at e
def qBM (n : String) (r : QM) (to : QE) (t : QA) : QE := fun δ g Q => to δ g fun x g1 => isTp n (res g1 x) = true ∧ t δ g1 fun xs g2 => r x xs g2 Q
variable {o e : Expr} {es : List Expr} {to : QE} {t : QA} {name : Str} {apos cpos : Pos} {Tn id : String} {r : QM}
theorem q_bm0 (pa : PlainAttrs Tn) (slot : Slot Tn name id) (hty : typeOf (.builtin id) = pure (.type "method_descriptor")) (hm : MtR X id (lowM X r)) (ho : PE X o (lowE X to)) (nt : Tn ≠ "tuple" := by decide)
    (hbase : attributeBase o name X.env (eval o X.env) = eval o X.env := by rfl) (hline : (apos.endLine == cpos.line) = true := by rfl) : PE X (.Call (.Attribute o name apos) [] [] cpos) (lowE X (qBM Tn r to qNil)) := by
  refine ⟨fun pins s σ H Q I ⟨δ, g, Q', S, R, h, k⟩ => ?_⟩
  refine wpAny_Call_method0_late hbase hline (thn (ho.run pins s σ H (fun x H1 => ∃ d g1, TV X.prog X.w X.K g1 H1 d x ∧ Ext g H g1 H1 ∧ RG X.prog X.w X.K g1 H1 ∧ (isTp Tn (res g1 d) = true ∧ r d [] g1 Q')) I ⟨δ, g, _, S, R, h, fun d g1 v H1 r1 e1 R1 q1 => ⟨d, g1, r1, e1, R1, q1⟩⟩) fun v s1 ⟨x, H1, I1, r1, d, g1, rt, e1, R1, ty, q1⟩ => ?_)
  obtain ⟨h1, h2⟩ := isTp_at I1 (res_rv R1 rt) r1 ty nt
  exact ⟨Tn, id, pa, slot, hty, h1, h2, Calls.callWith_builtin rfl (PySem.evalArgs_none (hm pins s1 σ H1 x [] v [] Q I1 r1 .nil ⟨d, [], g1, Q', rt, .nil, R1, q1, k.ext e1⟩))⟩
theorem q_bm (pa : PlainAttrs Tn) (slot : Slot Tn name id) (hty : typeOf (.builtin id) = pure (.type "method_descriptor")) (hm : MtR X id (lowM X r)) (ho : PE X o (lowE X to)) (ha : PA X (e :: es) (lowA X t)) (nt : Tn ≠ "tuple" := by decide)
    (hbase : attributeBase o name X.env (eval o X.env) = eval o X.env := by rfl)
    (hfew : ((backTo cpos (starEach (e :: es) X.env)).all (fun x => !x.1) && (backToKw cpos (keywordEach [] X.env)).all (fun x => x.1.isSome)
      && decide ((e :: es).length + ([] : List Keyword).length + (if ([] : List Keyword).isEmpty then 0 else 1) < 30)) = true := by rfl)
    (hline : (apos.endLine == cpos.line) = true := by rfl) (hs : starEach (e :: es) X.env = (false, eval e X.env) :: starEach es X.env := by rfl) (hplain : (backTo cpos (starEach es X.env)).any (·.1) = false := by rfl) :
    PE X (.Call (.Attribute o name apos) (e :: es) [] cpos) (lowE X (qBM Tn r to t)) := by
  refine ⟨fun pins s σ H Q I ⟨δ, g, Q', S, R, h, k⟩ => ?_⟩
  refine wpAny_Call_method_late hbase hfew hline rfl (thn (ho.run pins s σ H (fun x H1 => ∃ d g1, TV X.prog X.w X.K g1 H1 d x ∧ Ext g H g1 H1 ∧ RG X.prog X.w X.K g1 H1 ∧ (isTp Tn (res g1 d) = true ∧ t δ g1 fun xs g2 => r d xs g2 Q')) I ⟨δ, g, _, S, R, h, fun d g1 v H1 r1 e1 R1 q1 => ⟨d, g1, r1, e1, R1, q1⟩⟩) fun v s1 ⟨x, H1, I1, r1, d, g1, rt, e1, R1, ty, q1⟩ => ?_)
  obtain ⟨h1, h2⟩ := isTp_at I1 (res_rv R1 rt) r1 ty nt
  refine ⟨Tn, id, pa, slot, hty, h1, h2, ?_⟩
  have hA := ha.run cpos pins s1 σ H1 (fun vs H2 => ∃ ds g2, TVs X.prog X.w X.K g2 H2 ds vs ∧ Ext g1 H1 g2 H2 ∧ RG X.prog X.w X.K g2 H2 ∧ r d ds g2 Q') I1 ⟨δ, g1, _, S.mono e1.stay, R1, q1, fun ds g2 vs H2 r2 e2 R2 q2 => ⟨ds, g2, r2, e2, R2, q2⟩⟩
  rw [hs] at hA ⊢
  refine Calls.callWith_builtin (by show (false || (backTo cpos (starEach es X.env)).any (·.1)) = false; rw [hplain] <;> rfl) (Calls.evalArgs_plain ?_)
  exact thn hA fun us s2 ⟨vs, H2, I2, r2, ds, g2, rts, e2, R2, q2⟩ => hm pins s2 σ H2 x vs v us Q I2 r1 r2 ⟨d, ds, g2, Q', rt.mono e2.stay, rts, R2, q2, (k.ext e1).ext e2⟩

/-! ### methods of lists -/
def m0 (f : T → G → K1 → Prop) : QM := fun d ds g Q => match ds with
  | [] => f d g Q
  | _ => False
def m1 (f : T → T → G → K1 → Prop) : QM := fun d ds g Q => match ds with
  | [x] => f d x g Q
  | _ => False
def m2 (f : T → T → T → G → K1 → Prop) : QM := fun d ds g Q => match ds with
  | [x, y] => f d x y g Q
  | _ => False
theorem low_m0 {f : T → G → K1 → Prop} {x : V} {xs : List V} {H : Hp} {Q : VK} (h : lowM X (m0 f) x xs H Q) : ∃ d g Q', xs = [] ∧ TV X.prog X.w X.K g H d x ∧ RG X.prog X.w X.K g H ∧ f d g Q' ∧ KE X g H Q' Q := by
  obtain ⟨d, ds, g, Q', r, rs, R, h, k⟩ := h
  unfold m0 at h
  split at h
  · cases rs; exact ⟨d, g, Q', rfl, r, R, h, k⟩
  · exact h.elim
theorem low_m1 {f : T → T → G → K1 → Prop} {x : V} {xs : List V} {H : Hp} {Q : VK} (h : lowM X (m1 f) x xs H Q) : ∃ y d e g Q', xs = [y] ∧ TV X.prog X.w X.K g H d x ∧ TV X.prog X.w X.K g H e y ∧ RG X.prog X.w X.K g H ∧ f d e g Q' ∧ KE X g H Q' Q := by
  obtain ⟨d, ds, g, Q', r, rs, R, h, k⟩ := h
  unfold m1 at h
  split at h
  · cases rs with | cons r1 rr => cases rr; exact ⟨_, d, _, g, Q', rfl, r, r1, R, h, k⟩
  · exact h.elim
theorem low_m2 {f : T → T → T → G → K1 → Prop} {x : V} {xs : List V} {H : Hp} {Q : VK} (h : lowM X (m2 f) x xs H Q) : ∃ y z d e e' g Q', xs = [y, z] ∧ TV X.prog X.w X.K g H d x ∧ TV X.prog X.w X.K g H e y ∧ TV X.prog X.w X.K g H e' z ∧ RG X.prog X.w X.K g H ∧ f d e e' g Q' ∧ KE X g H Q' Q := by
  obtain ⟨d, ds, g, Q', r, rs, R, h, k⟩ := h
  unfold m2 at h
  split at h
  · cases rs with | cons r1 rr => cases rr with | cons r2 rr => cases rr; exact ⟨_, _, d, _, _, g, Q', rfl, r, r1, r2, R, h, k⟩
  · exact h.elim
/-- a list of the view -/
def gl (g : G) (x : T) (k : Addr → List T → Prop) : Prop := match x with
  | .ref a => (match g a with
    | some (.lst ts) => k a ts
    | _ => False)
  | _ => False
theorem gl_at {g : G} {x : T} {k : Addr → List T → Prop} (h : gl g x k) : ∃ a ts, x = .ref a ∧ g a = some (.lst ts) ∧ k a ts := by
  unfold gl at h
  split at h
  · split at h
    · exact ⟨_, _, rfl, by assumption, h⟩
    · exact h.elim
  · exact h.elim
theorem gl_of {g : G} {a : Addr} {ts : List T} {k : Addr → List T → Prop} (e : g a = some (.lst ts)) (h : k a ts) : gl g (.ref a) k := by
  simp only [gl, e]; exact h
def mAppend : QM := m1 fun d y g Q => gl g d fun a ts => ts.length < sizeLine ∧ Q .non (gput g a (.lst (ts ++ [y])))
theorem l_append : MtR X "list.append" (lowM X mAppend) := MtR.imp mt_append fun x xs H Q h => by
  obtain ⟨y, d, e, g, Q', rfl, r, r1, R, hh, k⟩ := low_m1 h
  obtain ⟨a, ts, rfl, ga, hz, hq⟩ := gl_at hh
  cases r
  cases R a _ ga with
  | @lst _ xs h1 h2 =>
    have x2 : Ext g H (gput g a (.lst (ts ++ [e]))) (upd H a (.lst (xs ++ [y]))) := Ext.put ga
    exact ⟨a, xs, y, rfl, rfl, h1, by rw [← h2.len]; exact hz, k _ _ _ _ .non x2 (R.put ga (.lst upd_same ((h2.app (.cons r1 .nil)).mono x2.stay))) hq⟩
def mExtend : QM := m1 fun d y g Q => gl g d fun a ts => match res g y with
  | .lst us => ts.length + us.length ≤ sizeLine ∧ Q .non (gput g a (.lst (ts ++ us)))
  | _ => False
theorem l_extend : MtR X "list.extend" (lowM X mExtend) := by
  intro pins s σ H x vs v us Q I rx rv h
  obtain ⟨y, d, e, g, Q', rfl, r, r1, R, hh, k⟩ := low_m1 h
  obtain ⟨a, ts, rfl, ga, hh⟩ := gl_at hh
  cases r
  have q1 := res_rv R r1
  split at hh
  · rename_i us' e1
    rw [e1] at q1
    obtain ⟨b, zs, rfl, hb, hy⟩ := q1.toLst
    cases R a _ ga with
    | @lst ts xs hH h2 =>
      cases rx
      obtain ⟨u, rfl, ru⟩ := rv.one
      cases ru
      obtain ⟨z, its, n, r, hl, e⟩ := I.lstM hH
      obtain ⟨z2, its2, n2, r2, hl2, e2⟩ := rdl I hb
      have hx1 := h2.len
      have hx2 := hy.len
      have hz := hh.1
      have hsz : its.toArray.size + its2.toArray.size ≤ sizeLine := by rw [List.size_toArray, List.size_toArray]; omega
      have hlong : ¬ (!its.toArray.isEmpty && Builtin.List.listTooLong (its.toArray.size + its2.toArray.size)) = true := by
        rw [notLongL hsz, Bool.and_false]
        exact Bool.false_ne_true
      refine call_meets F.slot_list_extend ⟨_, e, rfl⟩ F.entry_list_extend (F.args_list_extend_2 _ _)
        (AutoSeq1.list_extend_list_list_0 a its.toArray n b its2.toArray n2 hlong (by rw [List.size_toArray]; omega) (by omega)) ⟨e, e2, ?_⟩
      have x2 : Ext g H (gput g a (.lst (ts ++ us'))) (upd H a (.lst (xs ++ zs))) := Ext.put ga
      refine ⟨.non, _, I.lset (its' := its ++ its2) hH e (by simp) (r.append r2) ?_, rfl, k _ _ _ _ .non x2 (R.put ga (.lst upd_same ((h2.app hy).mono x2.stay))) hh.2⟩
      rw [List.length_append]
      omega
  · exact hh.elim
theorem TVs.dropLast {P : Program} {w : World} {K : PySem.W.Frag} {g : G} {H : Hp} {ts : List T} {vs : List V} (h : TVs P w K g H ts vs) : TVs P w K g H ts.dropLast vs.dropLast := by
  rw [List.dropLast_eq_take, List.dropLast_eq_take, h.len]
  exact h.take _
theorem TVs.rev {P : Program} {w : World} {K : PySem.W.Frag} {g : G} {H : Hp} : ∀ {ts : List T} {vs : List V}, TVs P w K g H ts vs → TVs P w K g H ts.reverse vs.reverse
  | _, _, .nil => .nil
  | _, _, .cons a b => by rw [List.reverse_cons, List.reverse_cons]; exact (TVs.rev b).app (.cons a .nil)
def mPop : QM := m0 fun d g Q => gl g d fun a ts => match ts.getLast? with
  | some t => Q t (gput g a (.lst ts.dropLast))
  | none => False
theorem l_pop : MtR X "list.pop" (lowM X mPop) := MtR.imp mt_pop fun x xs H Q h => by
  obtain ⟨d, g, Q', rfl, r, R, hh, k⟩ := low_m0 h
  obtain ⟨a, ts, rfl, ga, hh⟩ := gl_at hh
  cases r
  split at hh
  · rename_i t e
    cases R a _ ga with
    | @lst ts xs hH h2 =>
      rw [List.getLast?_eq_getElem?] at e
      obtain ⟨v, e1, e2⟩ := h2.get e
      have x2 : Ext g H (gput g a (.lst ts.dropLast)) (upd H a (.lst xs.dropLast)) := Ext.put ga
      exact ⟨a, xs, v, rfl, rfl, hH, by rw [← h2.len]; exact e1, k _ _ _ _ (e2.mono x2.stay) x2 (R.put ga (.lst upd_same (h2.dropLast.mono x2.stay))) hh⟩
  · exact hh.elim
def mInsert : QM := m2 fun d i y g Q => gl g d fun a ts => match i with
  | .int j => ts.length < sizeLine ∧ 0 ≤ j ∧ j < 2 ^ 63 ∧ Q .non (gput g a (.lst (ts.take j.toNat ++ [y] ++ ts.drop j.toNat)))
  | _ => False
theorem l_insert : MtR X "list.insert" (lowM X mInsert) := MtR.imp mt_insert fun x xs H Q h => by
  obtain ⟨y, z, d, e, e', g, Q', rfl, r, r1, r2, R, hh, k⟩ := low_m2 h
  obtain ⟨a, ts, rfl, ga, hh⟩ := gl_at hh
  cases r
  cases r1 with
  | @int j =>
    cases R a _ ga with
    | @lst ts xs hH h2 =>
      have x2 : Ext g H (gput g a (.lst (ts.take j.toNat ++ [e'] ++ ts.drop j.toNat))) (upd H a (.lst (xs.take j.toNat ++ [z] ++ xs.drop j.toNat))) := Ext.put ga
      exact ⟨a, xs, j, z, rfl, rfl, hH, by rw [← h2.len]; exact hh.1, hh.2.1, hh.2.2.1, k _ _ _ _ .non x2 (R.put ga (.lst upd_same ((((h2.take j.toNat).app (.cons r2 .nil)).app (h2.drop j.toNat)).mono x2.stay))) hh.2.2.2⟩
  | _ => exact hh.elim
def mReverse : QM := m0 fun d g Q => gl g d fun a ts => Q .non (gput g a (.lst ts.reverse))
theorem l_reverse : MtR X "list.reverse" (lowM X mReverse) := MtR.imp mt_reverse fun x xs H Q h => by
  obtain ⟨d, g, Q', rfl, r, R, hh, k⟩ := low_m0 h
  obtain ⟨a, ts, rfl, ga, hh⟩ := gl_at hh
  cases r
  cases R a _ ga with
  | @lst ts xs hH h2 =>
    have x2 : Ext g H (gput g a (.lst ts.reverse)) (upd H a (.lst xs.reverse)) := Ext.put ga
    exact ⟨a, xs, rfl, rfl, hH, k _ _ _ _ .non x2 (R.put ga (.lst upd_same (h2.rev.mono x2.stay))) hh⟩
/-- xs[i] = v -/
def ixT (n : Nat) (i : Int) : Option Nat := match i with
  | .ofNat k => if k < n then some k else none
  | .negSucc k => if k < n then some (n - 1 - k) else none
theorem ixT_N {n : Nat} {i : Int} {j : Nat} (h : ixT n i = some j) : ixN n i = some j := by
  unfold ixT at h
  unfold ixN
  cases i with
  | ofNat k =>
    simp only at h
    split at h
    · have e1 : (0 : Int) ≤ Int.ofNat k := Int.natCast_nonneg k
      have e2 : Int.ofNat k < (n : Int) := by rw [Int.ofNat_eq_natCast]; omega
      rw [if_pos e1, if_pos e2]
      cases h
      rfl
    · cases h
  | negSucc k =>
    simp only at h
    split at h
    · rw [if_neg (by omega), if_pos (by omega)]
      cases h
      congr 1
      omega
    · cases h

/-! ### dicts changed -/
/-- a dict of the view -/
def gd (g : G) (x : T) (k : Addr → List (T × T) → Prop) : Prop := match x with
  | .ref a => (match g a with
    | some (.dct kvs) => k a kvs
    | _ => False)
  | _ => False
theorem gd_at {g : G} {x : T} {k : Addr → List (T × T) → Prop} (h : gd g x k) : ∃ a ts, x = .ref a ∧ g a = some (.dct ts) ∧ k a ts := by
  unfold gd at h
  split at h
  · split at h
    · exact ⟨_, _, rfl, by assumption, h⟩
    · exact h.elim
  · exact h.elim
theorem putT_len (kvs : List (T × T)) (k v : T) : (putT kvs k v).length ≤ kvs.length + 1 := by
  unfold putT
  split
  · simp
  · simp
theorem delT_len (kvs : List (T × T)) (k : T) : (delT kvs k).length ≤ kvs.length := List.length_filter_le _ _
theorem mut_dr {g : G} {H : Hp} {a : Addr} {u : HO} {kvs : List (T × T)} (d : DR X.prog X.w X.K g H a u kvs) : Mut (some u) := by
  cases d <;> trivial
theorem dn_ok {P : Program} {w : World} {H : Hp} {h : Heap} {a : Addr} {xs : List (NestedKey × Addr × Value)} (r : RawN P w a xs h) (hz : xs.length ≤ sizeLine) (hs : (a == sysModules) = false) : ObjOk P w H h a (DN P w a xs) := by
  refine ⟨⟨r, hz, hs⟩, ?_, fun h1 h2 ⟨⟨o, es, ep, q1, q2⟩, q3⟩ k => ⟨⟨o, es, ep, k o q1, q2⟩, q3⟩⟩
  obtain ⟨o, _, _, q1, _⟩ := r
  exact ⟨o, q1⟩
section
variable {pins : List (Addr × Obj)} {σ : L2.St} {H : Hp} {s : Shared} {g : G} {A : Around} {E : Value → Shared → Prop}
/-- the state behind a change of a dict -/
theorem dt_done {a : Addr} {u u' : HO} {kvs kvs' : List (T × T)} {h' : Heap} {tk : Nat} (I : Inv X pins σ H s) (R : RG X.prog X.w X.K g H) (ga : g a = some (.dct kvs)) (e : H a = some u) (d : DR X.prog X.w X.K g H a u kvs) (hs : Heap.SameBut a s.heap h') (he : ∃ q, h'.get? a = some q)
    (new : ObjOk X.prog X.w (upd H a u') h' a u') (d' : DR X.prog X.w X.K g H a u' kvs') :
    Inv X pins σ (upd H a u') { s with heap := h', toks := tk } ∧ Ext g H (gput g a (.dct kvs')) (upd H a u') ∧ RG X.prog X.w X.K (gput g a (.dct kvs')) (upd H a u') := by
  have x2 : Ext g H (gput g a (.dct kvs')) (upd H a u') := Ext.put ga
  exact ⟨d_write I (by rw [e]; exact mut_dr d) hs he new, x2, R.put ga (.dct upd_same (d'.mono x2.stay))⟩
theorem dt_set {a : Addr} {kvs : List (T × T)} {k t : T} {v tv : V} {kv tu : Value} {Q : Unit → Shared → Prop} (hu : A.units + 9 < cLine) (I : Inv X pins σ H s) (R : RG X.prog X.w X.K g H) (ga : g a = some (.dct kvs)) (r : TV X.prog X.w X.K g H k v) (rv : RelV v kv) (rt : TV X.prog X.w X.K g H t tv) (rtv : RelV tv tu)
    (ok : kOk kvs k = true) (hl : kvs.length < sizeLine) (h : ∀ s' H', Inv X pins σ H' s' → Ext g H (gput g a (.dct (putT kvs k t))) H' → RG X.prog X.w X.K (gput g a (.dct (putT kvs k t))) H' → Q () s') : wpAny (model X.prog X.w) A (setItem (.ref a) kv tu) Q E s := by
  cases R a _ ga with
  | @dct _ u e d =>
    rcases kOk_or ok with ⟨⟨x, ex⟩, hf⟩ | ⟨ht, hf⟩
    · obtain ⟨⟨ks, vs, q1, q2, dd, hz⟩, hs⟩ := dflat I.hok (.inl e) d hf
      have := key_val r ex; subst this
      have hk := fk_key ex; subst hk
      refine wpAny_setItem_pairs (hsz := hz) (kV_is rv) dd fun h' dd' hs' => ?_
      have he : ∃ q, h'.get? a = some q := let ⟨q, _, _, hq, _⟩ := dd'; ⟨q, hq⟩
      have hkl := q1.len
      have hkl2 := q2.length
      have hl2 : (putK ks x tv).length ≤ sizeLine := by have := length_putK ks x tv; omega
      obtain ⟨z1, z2, z3⟩ := dt_done (tk := s.toks + 1) (kvs' := putT kvs (keyT x) t) I R ga e d hs' he (dk_new hl2 hs (q2.put x rtv) dd') (.k (q1.put x rt))
      exact h _ _ z1 z2 z3
    · obtain ⟨⟨xs, q1, dd, hz⟩, hs⟩ := dnest I.hok (.inl e) d hf
      obtain ⟨nk, en, hd⟩ := tupK_get ht
      obtain ⟨b, rfl⟩ := tup_ref r ht
      cases rv
      refine wpAny_setItem_heap (knd := nestedKind X.prog X.w) (hsz := hz) (by show A.in1.units + 8 < cLine; show A.units + 1 + 8 < cLine; omega) (⟨TV.nested I.hok _ _ _ _ r en rfl, hd⟩ : (nestedKind X.prog X.w).is s.heap nk b) dd fun h' dd' hs' => ?_
      obtain ⟨o, es, ep, w1, w2, w3, w4, _, w5⟩ := dd'
      have q3 := q1.put en r hd rtv rt
      have hkl := q1.len
      have hz2 : (storedH xs nk b tu).length ≤ sizeLine := by
        rw [← q3.len]; have := putT_len kvs k t; omega
      obtain ⟨z1, z2, z3⟩ := dt_done (tk := s.toks + (nestedKind X.prog X.w).draws nk) (kvs' := putT kvs k t) I R ga e d hs' ⟨o, w1⟩ (dn_ok ⟨o, es, ep, w1, w2, w3, w4, w5⟩ hz2 hs) (.n q3)
      exact h _ _ z1 z2 z3
end
def sSet (x i v : T) (g : G) (Q : G → Prop) : Prop := (∃ a ts j k, x = .ref a ∧ g a = some (.lst ts) ∧ i = .int k ∧ ixT ts.length k = some j ∧ Q (gput g a (.lst (ts.set j v)))) ∨ gd g x fun a kvs => kOk kvs i = true ∧ kvs.length < sizeLine ∧ Q (gput g a (.dct (putT kvs i v)))
def lowSet (X : Cx) : TSet := fun o i v H Q => ∃ d di dv g Q', TV X.prog X.w X.K g H d o ∧ TV X.prog X.w X.K g H di i ∧ TV X.prog X.w X.K g H dv v ∧ RG X.prog X.w X.K g H ∧ sSet d di dv g Q' ∧ ∀ g' H', Ext g H g' H' → RG X.prog X.w X.K g' H' → Q' g' → Q H'
theorem set_all (hu : X.A.units + 9 < cLine) : PSet X (lowSet X) := by
  intro pins s σ H o i v ov iv u Q I ro ri rv h
  obtain ⟨d, di, dv, g, Q', r1, r2, r3, R, h, k⟩ := h
  rcases h with ⟨a, ts, j, n, rfl, ga, rfl, hj, hq⟩ | h
  · cases r1; cases r2
    cases R a _ ga with
    | @lst _ xs hH h2 =>
      have x2 : Ext g H (gput g a (.lst (ts.set j dv))) (upd H a (.lst (xs.set j v))) := Ext.put ga
      exact set_list pins s σ H _ _ v ov iv u Q I ro ri rv ⟨a, xs, n, j, rfl, rfl, hH, by rw [← h2.len]; exact ixT_N hj, k _ _ x2 (R.put ga (.lst upd_same ((h2.set r3 j).mono x2.stay))) hq⟩
  · obtain ⟨a, kvs, rfl, ga, ok, hl, hq⟩ := gd_at h
    cases r1
    cases ro
    exact dt_set hu I R ga r2 ri r3 rv ok hl fun s' H' I' x2 R2 => ⟨H', I', k _ _ x2 R2 hq⟩
def gtSub (to ti : QE) : QG := fun d δ g Q => to δ g fun o g1 => ti δ g1 fun i g2 => sSet o i d g2 fun g3 => Q δ g3
theorem qg_sub {o i : Expr} {to ti : QE} {pos : Pos} (hu : X.A.units + 9 < cLine) (ho : PE X o (lowE X to)) (hi : PE X i (lowE X ti))
    (ha : ∀ v, assign (.Subscript o i pos) X.env v = (do
      let ov ← holding [v] (eval o X.env)
      let iv ← holding [v, ov] (eval i X.env)
      standAt pos
      holding [v, ov, iv] (setItem ov iv v)
      release [v, ov, iv] []) := by intro _; rfl) : PG X (.Subscript o i pos) (lowG X (gtSub to ti)) := by
  refine PG.imp (pg_sub ho hi (set_all hu) ha) fun v σ H Q ⟨d, δ, g, Q', S, r, R, h, k⟩ => ⟨δ, g, _, S, R, h, fun o g1 ov H1 r1 e1 R1 q1 => ?_⟩
  refine ⟨δ, g1, _, S.mono e1.stay, R1, q1, fun i g2 iv H2 r2 e2 R2 q2 => ?_⟩
  exact ⟨o, i, d, g2, _, r1.mono e2.stay, r2, r.mono (e1.trans e2).stay, R2, q2, fun g3 H3 e3 R3 q3 => k _ _ _ _ (S.mono ((e1.trans e2).trans e3).stay) ((e1.trans e2).trans e3) R3 q3⟩
/-- {} -/
def qDict0 : QE := fun _ g Q => ∀ p, g p = none → Q (.ref p) (gput g p (.dct []))
theorem q_dict0 {pos : Pos} : PE X (.Dict [] [] pos) (lowE X qDict0) := PE.imp pe_dnewK fun σ H Q ⟨δ, g, Q', S, R, h, k⟩ => fun p hp =>
  k _ _ _ _ .ref (Ext.newG hp) (R.newG hp (.dct upd_same (.k .nil))) (h p (R.fresh hp))

/-! ### all, any, sum of lists -/
def bools : List T → Option (List Bool)
  | [] => some []
  | .bl b :: r => (bools r).map (b :: ·)
  | _ => none
theorem bools_v {P : Program} {w : World} {K : PySem.W.Frag} {g : G} {H : Hp} : ∀ {ts : List T} {vs : List V} {bs : List Bool}, TVs P w K g H ts vs → bools ts = some bs → vs = bs.map V.bl
  | [], _, bs, r, e => by cases r; simp [bools] at e; subst e; rfl
  | .bl b :: ts, _, bs, r, e => by
    cases r with
    | cons r1 r2 =>
      cases r1
      simp only [bools, Option.map_eq_some_iff] at e
      obtain ⟨cs, e1, rfl⟩ := e
      rw [bools_v r2 e1]; rfl
  | .non :: _, _, _, _, e => by simp [bools] at e
  | .int _ :: _, _, _, _, e => by simp [bools] at e
  | .str _ :: _, _, _, _, e => by simp [bools] at e
  | .ref _ :: _, _, _, _, e => by simp [bools] at e
  | .ty _ :: _, _, _, _, e => by simp [bools] at e
  | .tup _ :: _, _, _, _, e => by simp [bools] at e
  | .lst _ :: _, _, _, _, e => by simp [bools] at e
  | .dct _ :: _, _, _, _, e => by simp [bools] at e
  | .scr _ :: _, _, _, _, e => by simp [bools] at e
def bAll : QC := c1 fun d g Q => match res g d with
  | .lst ts => (match bools ts with
    | some bs => Q (.bl (bs.all fun b => b)) g
    | none => False)
  | _ => False
def bAny : QC := c1 fun d g Q => match res g d with
  | .lst ts => (match bools ts with
    | some bs => Q (.bl (bs.any fun b => b)) g
    | none => False)
  | _ => False
theorem b_all (hc : X.calm = true) : CallR X (.builtin "all") (lowC X bAll) := CallR.imp (cr_all hc) fun xs H Q h => by
  obtain ⟨x, d, g, Q', rfl, r, R, hh, k⟩ := low_c1 h
  have q := res_rv R r
  split at hh
  · rename_i ts e
    rw [e] at q
    obtain ⟨a, xs, rfl, ha, hx⟩ := q.toLst
    split at hh
    · rename_i bs eb
      have := bools_v hx eb; subst this
      exact ⟨a, bs, rfl, .inl ha, k _ _ _ _ .bl Ext.refl R hh⟩
    · exact hh.elim
  · exact hh.elim
theorem b_any (hc : X.calm = true) : CallR X (.builtin "any") (lowC X bAny) := CallR.imp (cr_any hc) fun xs H Q h => by
  obtain ⟨x, d, g, Q', rfl, r, R, hh, k⟩ := low_c1 h
  have q := res_rv R r
  split at hh
  · rename_i ts e
    rw [e] at q
    obtain ⟨a, xs, rfl, ha, hx⟩ := q.toLst
    split at hh
    · rename_i bs eb
      have := bools_v hx eb; subst this
      exact ⟨a, bs, rfl, .inl ha, k _ _ _ _ .bl Ext.refl R hh⟩
    · exact hh.elim
  · exact hh.elim
end
end TL
set_option Elab.async false
set_option linter.all false
set_option maxRecDepth 100000
set_option maxHeartbeats 4000000
/-! TL9: calls of defs by their promises; what is walked; for, while; list comprehensions. -/
namespace TL
open PySem PySem.Spec L2 PyProof.Rows

/-! ### promises -/
abbrev TX := Value → G → Prop
abbrev TSp := List T → G → K1 → TX → Prop
def lowSp (P : Program) (w : World) (K : PySem.W.Frag) (n : Nat) (t : TSp) : Sp := fun vs H Q E => ∃ ds g Q' E', ds.length = n ∧ TVs P w K g H ds vs ∧ RG P w K g H ∧ t ds g Q' E' ∧
  (∀ d g' v H', TV P w K g' H' d v → Ext g H g' H' → RG P w K g' H' → Q' d g' → Q v H') ∧ ∀ c dx g' H', Ext g H g' H' → RG P w K g' H' → E' c g' → E c dx H'
def noX : TX := fun _ _ => False
section
variable {X : Cx} {k : Nat} {f : Addr} {fd : FuncData} {ps : List Str} {sp : TSp} {dvs : List V} {ds : List Value} {dts : List T} {x : Str} {p pos : Pos} {e : Expr} {es : List Expr} {t : QA}
def qCall (sp : TSp) (dts : List T) (t : QA) : QE := fun δ g Q => t δ g fun xs g1 => sp (xs ++ dts) g1 Q noX
theorem q_callD {n : Nat} (F : FnOk X.prog X.w X.K X.mg X.base CX0 k f fd ps (lowSp X.prog X.w X.K n sp)) (hr : Room k X.A) (hg : Gl X x) (hm : X.mg x = some (.ref f)) (hk : PySem.W.keepIn X.K (.ref f) = true) (hb : Binds X.K fd ps ds) (hd : Vals dvs ds) (hdt : ∀ g H, TVs X.prog X.w X.K g H dts dvs)
    (ha : PA X (e :: es) (lowA X t)) (hn : es.length + 1 + dts.length = n) (hdb : (x == ("__debug__" : Str)) = false := by decide) (he : starEach (e :: es) X.env = (false, eval e X.env) :: starEach es X.env := by rfl) (hpl : (backTo pos (starEach es X.env)).any (·.1) = false := by rfl)
    (hl : ∀ δ g Q, t δ g Q → t δ g fun xs g' => xs.length = es.length + 1 ∧ Q xs g' := by intro _ _ _ h; exact h) :
    PE X (.Call (.Name x p) (e :: es) [] pos) (lowE X (qCall sp dts t)) := by
  refine PE.imp (pe_call F hr hg hm hk hb hd pass0 ha hdb he hpl) fun σ H Q ⟨δ, g, Q', S, R, h, kk⟩ => ?_
  refine ⟨δ, g, _, S, R, hl _ _ _ h, fun ds g1 vs H1 r e1 R1 q => ?_⟩
  exact ⟨ds ++ dts, g1, Q', noX, by rw [List.length_append, q.1]; exact hn, r.app (hdt g1 H1), R1, q.2, kk.ext e1, fun _ _ _ _ _ _ z => z.elim⟩
end
/-- an argument list's length -/
theorem qNil_len : ∀ (δ : TSt) (g : G) (Q : List T → G → Prop), qNil δ g Q → qNil δ g fun xs g' => xs.length = 0 ∧ Q xs g' := fun _ _ _ h => ⟨rfl, h⟩
section
variable {P : Program} {w : World} {K : PySem.W.Frag} {mg : Str → Option Value} {base : Heap}
/-- THE RULE for a def: its body's reading, then the plain proof -/
theorem fok {x qual : Str} {st : Stmt} {f : Addr} {fd : FuncData} {N ps : List Str} {k : Nat} {sp : TSp} {t : QS} (F : Fun K x qual st f fd) (S : FnScope N ps (defScope st))
    (hb : ∀ (cdv : Value) (A : Around) (outer : List Env) (s : Shared) (H : Hp) (E : XK), Room k (A.deeper (envOfC qual (defScope st) s.heap.objs.size f cdv)) →
      PSs (cxOf CX0 P w K mg base N qual (defScope st) f cdv A outer s H E).nox (defBody st) (lowS (cxOf CX0 P w K mg base N qual (defScope st) f cdv A outer s H E).nox t))
    (hp : ∀ ds g Q E, ds.length = ps.length → sp ds g Q E → t { nx := fun _ g' => Q .non g', rt := Q } (startT N ds) g) : FnOk P w K mg base CX0 (k + 1) f fd ps (lowSp P w K ps.length sp) := by
  refine F.ok S (fun vs H Q E ⟨ds, g, Q', E', hl, r, _⟩ => by rw [← r.len]; exact hl) fun cdv A outer s H vs Q E hr ⟨ds, g, Q', E', hl, r, R, h, k1, k2⟩ => ?_
  refine ⟨_, hb cdv A outer s H E hr, startT N ds, g, _, startR r, R, hp ds g Q' E' hl h, ⟨fun δ g' σ H' S' e R' q => k1 _ _ _ _ .non e R' q, k1, fun _ _ _ _ _ _ _ z => z.elim, fun _ _ _ _ _ _ _ z => z.elim⟩⟩
end

/-! ### what is walked -/
structure Src where
  items : List T
  keep : G → Prop
abbrev QI := TSt → G → (Src → G → Prop) → Prop
structure ItOk (X : Cx) (src : Src) (J : It) (g0 : G) (H0 : Hp) : Prop where
  go : ∀ g H, Ext g0 H0 g H → RG X.prog X.w X.K g H → src.keep g → ∀ i t, src.items[i]? = some t → J.go i H ∧ ∀ x H', J.yld i H x H' → Ext g H g H' ∧ RG X.prog X.w X.K g H' ∧ TV X.prog X.w X.K g H' t x
  stop : ∀ g H, Ext g0 H0 g H → RG X.prog X.w X.K g H → src.keep g → ∀ i, src.items.length ≤ i → J.stop i H
def lowI (X : Cx) (t : QI) : TI := fun σ H R => ∃ δ g R', StR X.prog X.w X.K g H δ σ ∧ RG X.prog X.w X.K g H ∧ t δ g R' ∧ ∀ src g' J H', Ext g H g' H' → RG X.prog X.w X.K g' H' → ItOk X src J g' H' → R' src g' → R J H'
theorem PI.imp {X : Cx} {tg iter : Expr} {t t' : TI} (h : PI X tg iter t) (i : ∀ σ H R, t' σ H R → t σ H R) : PI X tg iter t' := ⟨fun pins s σ H R I q => h.run pins s σ H R I (i σ H R q)⟩
def yes : G → Prop := fun _ => True
section
variable {X : Cx} {tg : Expr}
/-- the items of a list (frozen, or in the view and left as it is) or a tuple -/
def iSeq (te : QE) : QI := fun δ g R => te δ g fun d g1 => match d with
  | .lst ts => R ⟨ts, yes⟩ g1
  | .tup ts => R ⟨ts, yes⟩ g1
  | .ref a => (match g1 a with
    | some (.lst ts) => R ⟨ts, fun g => g a = some (.lst ts)⟩ g1
    | _ => False)
  | _ => False
theorem itl_frz {a : Addr} {xs : List V} {ts : List T} {g : G} {H : Hp} (ga : g a = none) (ha : Rd H a (.lst xs)) (hx : TVs X.prog X.w X.K g H ts xs) : ItOk X ⟨ts, yes⟩ (Itl X.K a) g H where
  go := fun g' H' e R _ i t ht => by
    obtain ⟨x, h1, h2⟩ := hx.get ht
    have ra := (e.stay _ _ ga ha).2
    refine ⟨⟨xs, x, .inl ra, h1⟩, fun y H2 ⟨e2, q⟩ => ?_⟩
    subst e2
    have := q xs (.inl ra)
    rw [h1] at this; cases this
    exact ⟨Ext.refl, R, h2.mono e.stay⟩
  stop := fun g' H' e R _ i hi => ⟨xs, .inl (e.stay _ _ ga ha).2, by rw [← hx.len]; exact hi⟩
theorem itl_view {a : Addr} {ts : List T} {g : G} {H : Hp} : ItOk X ⟨ts, fun g => g a = some (.lst ts)⟩ (Itl X.K a) g H where
  go := fun g' H' e R ka i t ht => by
    cases R a _ ka with
    | @lst _ xs hH hx =>
      obtain ⟨x, h1, h2⟩ := hx.get ht
      refine ⟨⟨xs, x, .inl (.inl hH), h1⟩, fun y H2 ⟨e2, q⟩ => ?_⟩
      subst e2
      have := q xs (.inl (.inl hH))
      rw [h1] at this; cases this
      exact ⟨Ext.refl, R, h2⟩
  stop := fun g' H' e R ka i hi => by
    cases R a _ ka with
    | @lst _ xs hH hx => exact ⟨xs, .inl (.inl hH), by rw [← hx.len]; exact hi⟩
theorem itt_frz {a : Addr} {xs : List V} {ts : List T} {g : G} {H : Hp} (ga : g a = none) (ha : Rd H a (.tup xs)) (hx : TVs X.prog X.w X.K g H ts xs) : ItOk X ⟨ts, yes⟩ (Itt X.K a) g H where
  go := fun g' H' e R _ i t ht => by
    obtain ⟨x, h1, h2⟩ := hx.get ht
    have ra := (e.stay _ _ ga ha).2
    refine ⟨⟨xs, x, .inl ra, h1⟩, fun y H2 ⟨e2, q⟩ => ?_⟩
    subst e2
    have := q xs (.inl ra)
    rw [h1] at this; cases this
    exact ⟨Ext.refl, R, h2.mono e.stay⟩
  stop := fun g' H' e R _ i hi => ⟨xs, .inl (e.stay _ _ ga ha).2, by rw [← hx.len]; exact hi⟩
/-- a list's items; a tuple's items: two rules, as the object is known ahead -/
def iLst (te : QE) : QI := fun δ g R => te δ g fun d g1 => match d with
  | .lst ts => R ⟨ts, yes⟩ g1
  | .ref a => (match g1 a with
    | some (.lst ts) => R ⟨ts, fun g => g a = some (.lst ts)⟩ g1
    | _ => False)
  | _ => False
def iTp (te : QE) : QI := fun δ g R => te δ g fun d g1 => match d with
  | .tup ts => R ⟨ts, yes⟩ g1
  | _ => False
theorem qi_lst {l : Expr} {te : QE} (h : PE X l (lowE X te)) : PI X tg l (lowI X (iLst te)) := by
  refine PI.imp (pi_list h) fun σ H R' ⟨δ, g, R0, S, R, q, k⟩ => ⟨δ, g, _, S, R, q, fun d g1 v H1 r e R1 q1 => ?_⟩
  cases r with
  | @lst a ts xs ga ha hx => exact ⟨a, rfl, ⟨xs, .inl ha⟩, k _ _ _ _ e R1 (itl_frz ga ha hx) q1⟩
  | @ref a =>
    simp only at q1
    split at q1
    · rename_i ts ga
      cases R1 a _ ga with
      | @lst _ xs hH hx => exact ⟨a, rfl, ⟨xs, .inl (.inl hH)⟩, k _ _ _ _ e R1 itl_view q1⟩
    · exact q1.elim
  | _ => exact q1.elim
theorem qi_tup {l : Expr} {te : QE} (h : PE X l (lowE X te)) : PI X tg l (lowI X (iTp te)) := by
  refine PI.imp (pi_tup h) fun σ H R' ⟨δ, g, R0, S, R, q, k⟩ => ⟨δ, g, _, S, R, q, fun d g1 v H1 r e R1 q1 => ?_⟩
  cases r with
  | @tup a ts xs ga ha hx => exact ⟨a, rfl, ⟨xs, .inl ha⟩, k _ _ _ _ e R1 (itt_frz ga ha hx) q1⟩
  | _ => exact q1.elim
/-- range(n), range(a, b) -/
def rangeT (lo : Int) (n : Nat) : List T := (List.range n).map fun (i : Nat) => .int (lo + (i : Int))
theorem itr_ok {lo : Int} {n : Nat} {g : G} {H : Hp} : ItOk X ⟨rangeT lo n, yes⟩ (Itr lo n) g H where
  go := fun g' H' e R _ i t ht => by
    unfold rangeT at ht
    rw [List.getElem?_map] at ht
    cases q : (List.range n)[i]? with
    | none => simp only [q] at ht; cases ht
    | some j =>
      simp only [q, Option.map_some, Option.some.injEq] at ht
      subst ht
      obtain ⟨h1, h2⟩ := List.getElem?_eq_some_iff.mp q
      rw [List.length_range] at h1
      rw [List.getElem_range] at h2
      subst h2
      refine ⟨h1, fun x H2 ⟨e1, e2⟩ => ?_⟩
      subst e1; subst e2
      exact ⟨Ext.refl, R, .int⟩
  stop := fun g' H' e R _ i hi => by
    have : n ≤ i := by simpa [rangeT] using hi
    exact this
def iRng1 (t : QA) : QI := fun δ g R => t δ g fun ds g1 => match ds with
  | [.int j] => j < 2 ^ 62 ∧ -(2 ^ 62) ≤ j ∧ R ⟨rangeT 0 j.toNat, yes⟩ g1
  | _ => False
def iRng2 (t : QA) : QI := fun δ g R => t δ g fun ds g1 => match ds with
  | [.int i, .int j] => (-(2 ^ 62) ≤ i ∧ i < 2 ^ 62 ∧ -(2 ^ 62) ≤ j ∧ j < 2 ^ 62) ∧ R ⟨rangeT i (j - i).toNat, yes⟩ g1
  | _ => False
theorem qi_rng1 {a : Expr} {t : QA} {p pos : Pos} (hg : Gl X "range") (hm : X.mg "range" = none) (ha : PA X [a] (lowA X t)) (hs : starEach [a] X.env = [(false, eval a X.env)] := by rfl) : PI X tg (.Call (.Name "range" p) [a] [] pos) (lowI X (iRng1 t)) := by
  refine PI.imp (pi_range1 hg hm ha hs) fun σ H R' ⟨δ, g, R0, S, R, q, k⟩ => ⟨δ, g, _, S, R, q, fun ds g1 vs H1 r e R1 q1 => ?_⟩
  split at q1
  · cases r with | cons r1 rr => cases rr; cases r1; exact ⟨_, rfl, q1.2.1, q1.1, k _ _ _ _ e R1 itr_ok q1.2.2⟩
  · exact q1.elim
theorem qi_rng2 {a b : Expr} {t : QA} {p pos : Pos} (hg : Gl X "range") (hm : X.mg "range" = none) (ha : PA X [a, b] (lowA X t)) (hs : starEach [a, b] X.env = [(false, eval a X.env), (false, eval b X.env)] := by rfl) (hs2 : starEach [b] X.env = [(false, eval b X.env)] := by rfl) :
    PI X tg (.Call (.Name "range" p) [a, b] [] pos) (lowI X (iRng2 t)) := by
  refine PI.imp (pi_range2 hg hm ha hs hs2) fun σ H R' ⟨δ, g, R0, S, R, q, k⟩ => ⟨δ, g, _, S, R, q, fun ds g1 vs H1 r e R1 q1 => ?_⟩
  split at q1
  · cases r with | cons r1 rr => cases rr with | cons r2 rr => cases rr; cases r1; cases r2; exact ⟨_, _, rfl, q1.1, k _ _ _ _ e R1 itr_ok q1.2⟩
  · exact q1.elim
/-- enumerate(list) -/
def enumT : Nat → List T → List T
  | _, [] => []
  | n, t :: ts => .tup [.int (n : Int), t] :: enumT (n + 1) ts
theorem enumT_get : ∀ {ts : List T} {n i : Nat} {t : T}, (enumT n ts)[i]? = some t → ∃ u, ts[i]? = some u ∧ t = .tup [.int ((n + i : Nat) : Int), u]
  | [], _, _, _, h => by simp [enumT] at h
  | u :: ts, n, 0, t, h => by
    simp [enumT] at h
    exact ⟨u, rfl, by rw [← h]; rfl⟩
  | u :: ts, n, i + 1, t, h => by
    obtain ⟨u', h1, h2⟩ := enumT_get (ts := ts) (n := n + 1) (i := i) (t := t) (by simpa [enumT] using h)
    exact ⟨u', by simpa using h1, by rw [h2]; congr 3; omega⟩
theorem enumT_len : ∀ {ts : List T} {n : Nat}, (enumT n ts).length = ts.length
  | [], _ => rfl
  | _ :: ts, n => by simp [enumT, enumT_len (ts := ts)]
theorem ite_frz {a : Addr} {xs : List V} {ts : List T} {g : G} {H : Hp} (ga : g a = none) (ha : Rd H a (.lst xs)) (hx : TVs X.prog X.w X.K g H ts xs) : ItOk X ⟨enumT 0 ts, yes⟩ (Ite X.K a) g H where
  go := fun g' H' e R _ i t ht => by
    obtain ⟨u, hu, rfl⟩ := enumT_get ht
    obtain ⟨x, h1, h2⟩ := hx.get hu
    have ra := (e.stay _ _ ga ha).2
    refine ⟨⟨xs, x, .inl ra, h1⟩, fun y H2 ⟨Tn, x', e1, hT, e2, q⟩ => ?_⟩
    subst e1; subst e2
    have := q xs (.inl ra)
    rw [h1] at this; cases this
    refine ⟨Ext.new hT, R.new hT, .tup (R.fresh hT) (.inl upd_same) (.cons ?_ (.cons ((h2.mono e.stay).mono (Ext.new hT).stay) .nil))⟩
    rw [Nat.zero_add]
    exact .int
  stop := fun g' H' e R _ i hi => ⟨xs, .inl (e.stay _ _ ga ha).2, by rw [← hx.len]; rw [enumT_len] at hi; exact hi⟩
def iEnum (t : QA) : QI := fun δ g R => t δ g fun ds g1 => match ds with
  | [.lst ts] => R ⟨enumT 0 ts, yes⟩ g1
  | _ => False
theorem qi_enum {e : Expr} {t : QA} {p pos tpos : Pos} {elts : List Expr} {kk : Nat} (hg : Gl X "enumerate") (hm : X.mg "enumerate" = none) (ha : PA X [e] (lowA X t)) (hs : starEach [e] X.env = [(false, eval e X.env)] := by rfl) :
    PI X (.Tuple elts kk tpos) (.Call (.Name "enumerate" p) [e] [] pos) (lowI X (iEnum t)) := by
  refine PI.imp (pi_enum hg hm ha hs) fun σ H R' ⟨δ, g, R0, S, R, q, k⟩ => ⟨δ, g, _, S, R, q, fun ds g1 vs H1 r e R1 q1 => ?_⟩
  split at q1
  · cases r with
    | cons r1 rr =>
      cases rr
      cases r1 with
      | @lst a ts xs ga ha hx => exact ⟨a, xs, rfl, .inl ha, k _ _ _ _ e R1 (ite_frz ga ha hx) q1⟩
  · exact q1.elim
/-- zip of two tuples, of two lists -/
def zipT : List T → List T → List T
  | a :: as, b :: bs => .tup [a, b] :: zipT as bs
  | _, _ => []
theorem zipT_get : ∀ {as bs : List T} {i : Nat} {t : T}, (zipT as bs)[i]? = some t → ∃ a b, as[i]? = some a ∧ bs[i]? = some b ∧ t = .tup [a, b]
  | [], _, _, _, h => by simp [zipT] at h
  | _ :: _, [], _, _, h => by simp [zipT] at h
  | a :: as, b :: bs, 0, t, h => by
    simp [zipT] at h
    exact ⟨a, b, rfl, rfl, h.symm⟩
  | a :: as, b :: bs, i + 1, t, h => by
    obtain ⟨x, y, h1, h2, h3⟩ := zipT_get (as := as) (bs := bs) (i := i) (t := t) (by simpa [zipT] using h)
    exact ⟨x, y, by simpa using h1, by simpa using h2, h3⟩
theorem zipT_len : ∀ {as bs : List T}, (zipT as bs).length = min as.length bs.length
  | [], _ => by simp [zipT]
  | _ :: _, [] => by simp [zipT]
  | _ :: as, _ :: bs => by simp only [zipT, List.length_cons, zipT_len (as := as) (bs := bs)]; omega
end
end TL
set_option Elab.async false
set_option linter.all false
set_option maxRecDepth 100000
set_option maxHeartbeats 4000000
/-! TL10: for, while, list comprehensions. -/
namespace TL
open PySem PySem.Spec L2 PyProof.Rows

section
variable {X : Cx} {pos : Pos}
/-! ### for -/
def wFor (keep : G → Prop) (tg : QG) (tb : QS) (D : TEnds) : List T → TSt → G → Prop
  | [], δ, g => keep g ∧ D.nx δ g
  | t :: ts, δ, g => keep g ∧ tg t δ g fun δ1 g1 => tb { D with nx := wFor keep tg tb D ts, ct := wFor keep tg tb D ts, bk := D.nx } δ1 g1
def qFor (ti : QI) (tg : QG) (tb : QS) : QS := fun D δ g => ti δ g fun src g1 => wFor src.keep tg tb D src.items δ g1
theorem wFor_keep {keep : G → Prop} {tg : QG} {tb : QS} {D : TEnds} : ∀ {ts : List T} {δ : TSt} {g : G}, wFor keep tg tb D ts δ g → keep g
  | [], _, _, h => h.1
  | _ :: _, _, _, h => h.1
theorem qs_for {tg iter : Expr} {body : List Stmt} {ti : QI} {tt : QG} {tb : QS} (hp : PassesOwn (model X.prog X.w) X.A X.env X.xe) (hc : X.calm = true) (hi : PI X tg iter (lowI X ti)) (hg : PG X tg (lowG X tt)) (hb : PSs X body (lowS X tb))
    (hs : ∀ x, foldedSetIterable iter X.env x = pure x := by intro _; rfl) : PS X (.For tg iter body [] pos) (lowS X (qFor ti tt tb)) := by
  refine PS.imp (ps_for hp hc hi hg hb hs) fun D σ H ⟨δ, g, D', S, R, h, k⟩ => ⟨δ, g, _, S, R, h, fun src g1 J H1 e1 R1 ok q => ?_⟩
  refine ⟨fun i m σ H => i + m = src.items.length ∧ ∃ δ g, StR X.prog X.w X.K g H δ σ ∧ RG X.prog X.w X.K g H ∧ Ext g1 H1 g H ∧ wFor src.keep tt tb D' (src.items.drop i) δ g,
    ⟨src.items.length, by omega, δ, g1, S.mono e1.stay, R1, Ext.refl, q⟩, fun i m σ H ⟨hm, δ, g, S, R, e, q⟩ => ?_⟩
  cases m with
  | zero =>
    have hl : src.items.length ≤ i := by omega
    rw [List.drop_eq_nil_of_le hl] at q
    exact .inl ⟨ok.stop g H e R q.1 i hl, k.nx _ _ _ _ S (e1.trans e) R q.2⟩
  | succ m =>
    have hl : i < src.items.length := by omega
    rw [List.drop_eq_getElem_cons hl] at q
    obtain ⟨kp, q⟩ := q
    obtain ⟨go, yl⟩ := ok.go g H e R kp i _ (List.getElem?_eq_getElem hl)
    refine .inr ⟨go, fun σ' H' => ∃ δ g, StR X.prog X.w X.K g H' δ σ' ∧ RG X.prog X.w X.K g H' ∧ Ext g1 H1 g H' ∧ wFor src.keep tt tb D' (src.items.drop (i + 1)) δ g,
      fun σ' H' z => ⟨m, Nat.lt_succ_self _, by omega, z⟩, fun x H' y => ?_⟩
    obtain ⟨e2, R2, r2⟩ := yl x H' y
    refine ⟨_, δ, g, _, S.mono e2.stay, r2, R2, q, fun δ3 g3 σ3 H3 S3 e3 R3 q3 => ?_⟩
    have eA := (e.trans e2).trans e3
    refine ⟨δ3, g3, _, S3, R3, q3, ⟨fun δ4 g4 σ4 H4 S4 e4 R4 q4 => ⟨δ4, g4, S4, R4, eA.trans e4, q4⟩, ?_, ?_, fun δ4 g4 σ4 H4 S4 e4 R4 q4 => ⟨δ4, g4, S4, R4, eA.trans e4, q4⟩⟩⟩
    · exact fun d g4 v H4 r4 e4 R4 q4 => k.rt d g4 v H4 r4 (e1.trans (eA.trans e4)) R4 q4
    · exact fun δ4 g4 σ4 H4 S4 e4 R4 q4 => k.nx δ4 g4 σ4 H4 S4 (e1.trans (eA.trans e4)) R4 q4

/-! ### while -/
def wWhile (tc : QT) (tb : QS) (D : TEnds) : Nat → TSt → G → Prop
  | 0, _, _ => False
  | n + 1, δ, g => tc δ g fun b g1 => if b = true then tb { D with nx := wWhile tc tb D n, ct := wWhile tc tb D n, bk := D.nx } δ g1 else D.nx δ g1
def qWhile (tc : QT) (tb : QS) : QS := fun D δ g => ∃ n, wWhile tc tb D n δ g
theorem qs_while {c : Expr} {body : List Stmt} {tc : QT} {tb : QS} (hp : PassesOwn (model X.prog X.w) X.A X.env X.xe) (hc : PT X c (lowT X tc)) (hb : PSs X body (lowS X tb)) : PS X (.While c body [] pos) (lowS X (qWhile tc tb)) := by
  refine PS.imp (ps_while hp hc hb) fun D σ H ⟨δ, g, D', S, R, ⟨n, q⟩, k⟩ => ?_
  refine ⟨fun m σ1 H1 => ∃ δ1 g1, StR X.prog X.w X.K g1 H1 δ1 σ1 ∧ RG X.prog X.w X.K g1 H1 ∧ Ext g H g1 H1 ∧ wWhile tc tb D' m δ1 g1, ⟨n, δ, g, S, R, Ext.refl, q⟩, fun m σ1 H1 ⟨δ1, g1, S1, R1, e1, q⟩ => ?_⟩
  cases m with
  | zero => exact q.elim
  | succ m =>
    refine ⟨δ1, g1, _, S1, R1, q, fun b g2 H2 e2 R2 q2 => ?_⟩
    cases b with
    | true =>
      rw [if_pos rfl] at q2
      rw [if_pos rfl]
      have eA := e1.trans e2
      refine ⟨fun σ' H' => ∃ δ1 g1, StR X.prog X.w X.K g1 H' δ1 σ' ∧ RG X.prog X.w X.K g1 H' ∧ Ext g H g1 H' ∧ wWhile tc tb D' m δ1 g1, fun σ' H' z => ⟨m, Nat.lt_succ_self _, z⟩, δ1, g2, _, S1.mono e2.stay, R2, q2, ⟨?_, ?_, ?_, ?_⟩⟩
      · exact fun δ4 g4 σ4 H4 S4 e4 R4 q4 => ⟨δ4, g4, S4, R4, eA.trans e4, q4⟩
      · exact fun d g4 v H4 r4 e4 R4 q4 => k.rt d g4 v H4 r4 (eA.trans e4) R4 q4
      · exact fun δ4 g4 σ4 H4 S4 e4 R4 q4 => k.nx δ4 g4 σ4 H4 S4 (eA.trans e4) R4 q4
      · exact fun δ4 g4 σ4 H4 S4 e4 R4 q4 => ⟨δ4, g4, S4, R4, eA.trans e4, q4⟩
    | false =>
      rw [if_neg Bool.false_ne_true] at q2
      rw [if_neg Bool.false_ne_true]
      exact k.nx δ1 g2 σ1 H2 (S1.mono e2.stay) (e1.trans e2) R2 q2

/-! ### targets of a comprehension: only the block's own names -/
def KNw (X : Cx) (vs : List Nat) (σ0 : L2.St) (g : G) (H : Hp) (Q' : TSt → G → Prop) (Q : L2.St → Hp → Prop) : Prop := ∀ δ g' σ H', wipe σ vs = wipe σ0 vs → StR X.prog X.w X.K g' H' δ σ → Ext g H g' H' → RG X.prog X.w X.K g' H' → Q' δ g' → Q σ H'
def lowGw (X : Cx) (vs : List Nat) (t : QG) : L2.TG := fun v σ H Q => ∃ d δ g Q', StR X.prog X.w X.K g H δ σ ∧ TV X.prog X.w X.K g H d v ∧ RG X.prog X.w X.K g H ∧ t d δ g Q' ∧ KNw X vs σ g H Q' Q
def lowGsw (X : Cx) (vs : List Nat) (t : QGs) : L2.TGs := fun ds' σ H Q => ∃ ds δ g Q', StR X.prog X.w X.K g H δ σ ∧ TVs X.prog X.w X.K g H ds ds' ∧ RG X.prog X.w X.K g H ∧ t ds δ g Q' ∧ KNw X vs σ g H Q' Q
theorem wipe_set {σ : L2.St} {i : Nat} {o : Option V} : ∀ {vs : List Nat}, i ∈ vs → wipe (σ.set i o) vs = wipe σ vs
  | v :: vs, h => by
    unfold wipe
    by_cases q : i ∈ vs
    · rw [wipe_set q]
    · have e : i = v := by
        rcases List.mem_cons.mp h with z | z
        · exact z
        · exact absurd z q
      subst e
      have : ∀ (us : List Nat), i ∉ us → wipe (σ.set i o) us = (wipe σ us).set i o := by
        intro us
        induction us with
        | nil => intro _; rfl
        | cons u us ih =>
          intro hu
          simp only [List.mem_cons, not_or] at hu
          unfold wipe
          rw [ih hu.2, List.set_comm _ _ hu.1]
      rw [this vs q, List.set_set]
theorem qgw_name {vs : List Nat} {i : Nat} {x : Str} (hv : i ∈ vs) (hN : X.N.Nodup) (hi : X.N[i]? = some x) (hx : Loc X.env.scope x) (hf : X.fn x = true ∨ X.env.scope.names.lookup x = some .local := by first | exact .inl rfl | exact .inr rfl | assumption) : PG X (.Name x pos) (lowGw X vs (gtName i)) :=
  PG.imp (pg_name hN hi hx hf) fun v σ H Q ⟨d, δ, g, Q', S, r, R, h, k⟩ => k _ _ _ _ (wipe_set hv) (S.set r) Ext.refl R h
theorem qgsw_nil {vs : List Nat} : PGs X [] (lowGsw X vs gtNil) := PGs.imp pgs_nil fun v σ H Q ⟨ds, δ, g, Q', S, r, R, h, k⟩ => by
  cases r with
  | nil => exact ⟨rfl, k _ _ _ _ rfl S Ext.refl R h⟩
  | cons _ _ => exact h.elim
theorem qgsw_cons {vs : List Nat} {e : Expr} {es : List Expr} {t : QG} {u : QGs} (h1 : PG X e (lowGw X vs t)) (h2 : PGs X es (lowGsw X vs u))
    (hs : (assignEach (e :: es) X.env).map (·.2) = assign e X.env :: (assignEach es X.env).map (·.2) := by rfl) : PGs X (e :: es) (lowGsw X vs (gtCons t u)) := by
  refine PGs.imp (pgs_cons h1 h2 hs) fun v σ H Q ⟨ds, δ, g, Q', S, r, R, h, k⟩ => ?_
  cases r with
  | nil => exact h.elim
  | cons r rr => exact ⟨_, _, rfl, _, δ, g, _, S, r, R, h, fun δ1 g1 σ1 H1 w1 S1 e R1 q => ⟨_, δ1, g1, Q', S1, rr.mono e.stay, R1, q, fun δ2 g2 σ2 H2 w2 S2 e2 R2 q2 => k _ _ _ _ (w2.trans w1) S2 (e.trans e2) R2 q2⟩⟩
theorem qgw_tup {vs : List Nat} {es : List Expr} {k : Nat} {t : QGs} {n : Nat} (hc : X.calm = true) (h : PGs X es (lowGsw X vs t))
    (hn : (assignEach es X.env).length = n := by rfl) (hst : (assignEach es X.env).findIdx? (·.1) = none := by rfl) : PG X (.Tuple es k pos) (lowGw X vs (gtTup n t)) := by
  refine PG.imp (pg_tup hc h hn hst) fun v σ H Q ⟨d, δ, g, Q', S, r, R, h, k⟩ => ?_
  cases r with
  | tup h1 h2 h3 => exact ⟨_, _, rfl, .inl h2, h3.len ▸ h.1, _, δ, g, Q', S, h3, R, h.2, k⟩
  | _ => exact h.elim

/-! ### tests of a clause -/
def qYes : QT := fun _ g Q => Q true g
def PTs.imp {ifs : List Expr} {t t' : TT} (h : PTs X ifs t) (i : ∀ σ H Q, t' σ H Q → t σ H Q) : PTs X ifs t' := ⟨fun pins s σ H Q I q => h.run pins s σ H Q I (i σ H Q q)⟩
theorem qts_nil : PTs X [] (lowT X qYes) := PTs.imp pts_nil fun σ H Q ⟨δ, g, Q', S, R, h, k⟩ => k _ _ _ Ext.refl R h
theorem qts_one {c : Expr} {t : QT} (h : PT X c (lowT X t)) : PTs X [c] (lowT X t) := pts_one h

/-! ### list comprehensions -/
def wipeT (δ : TSt) : List Nat → TSt
  | [] => δ
  | v :: vs => (wipeT δ vs).set v none
theorem StR.wipes {P : Program} {w : World} {K : PySem.W.Frag} {g : G} {H : Hp} {δ : TSt} {σ : L2.St} (h : StR P w K g H δ σ) : ∀ (vs : List Nat), StR P w K g H (wipeT δ vs) (L2.wipe σ vs)
  | [] => h
  | v :: vs => (StR.wipes h vs).wipe
/-- D: the new list -/
def wLc (keep : G → Prop) (tg : QG) (tt : QT) (te : QE) (D : Addr) (δ : TSt) (Q : G → Prop) : List T → G → Prop
  | [], g => keep g ∧ Q g
  | t :: ts, g => keep g ∧ tg t δ g fun δ1 g1 => tt δ1 g1 fun b g2 => if b = true then te δ1 g2 fun y g3 => ∃ acc, g3 D = some (.lst acc) ∧ acc.length < sizeLine ∧ wLc keep tg tt te D δ Q ts (gput g3 D (.lst (acc ++ [y]))) else wLc keep tg tt te D δ Q ts g2
def qLc (vs : List Nat) (ti : QI) (tg : QG) (tt : QT) (te : QE) : QE := fun δ g Q => ti δ g fun src g1 => ∀ D, g1 D = none → wLc src.keep tg tt te D (wipeT δ vs) (fun g2 => Q (.ref D) g2) src.items (gput g1 D (.lst []))
theorem lc_low {vs : List Nat} {ti : QI} {tt : QG} {tc : QT} {te : QE} {σ : L2.St} {H : Hp} {Q : VK} (h : lowE X (qLc vs ti tt tc te) σ H Q) : tLc (lowI X ti) (lowGw X vs tt) (lowT X tc) (lowE X te) vs σ H Q := by
  obtain ⟨δ, g, Q', S, R, h, k⟩ := h
  refine ⟨δ, g, _, S, R, h, fun src g1 J H1 e1 R1 ok q D hD => ?_⟩
  have q := q D (R1.fresh hD)
  have eN : Ext g1 H1 (gput g1 D (.lst [])) (upd H1 D (.lst [])) := Ext.newG hD
  have RN : RG X.prog X.w X.K (gput g1 D (.lst [])) (upd H1 D (.lst [])) := R1.newG hD (.lst upd_same .nil)
  refine ⟨fun i m H => i + m = src.items.length ∧ ∃ g, RG X.prog X.w X.K g H ∧ Ext g1 H1 g H ∧ wLc src.keep tt tc te D (wipeT δ vs) (fun g2 => Q' (.ref D) g2) (src.items.drop i) g,
    ⟨src.items.length, by omega, _, RN, eN, q⟩, fun i m H ⟨hm, g, R, e, q⟩ => ?_⟩
  cases m with
  | zero =>
    have hl : src.items.length ≤ i := by omega
    rw [List.drop_eq_nil_of_le hl] at q
    exact .inl ⟨ok.stop g H e R q.1 i hl, k _ _ _ _ .ref (e1.trans e) R q.2⟩
  | succ m =>
    have hl : i < src.items.length := by omega
    rw [List.drop_eq_getElem_cons hl] at q
    obtain ⟨kp, q⟩ := q
    obtain ⟨go, yl⟩ := ok.go g H e R kp i _ (List.getElem?_eq_getElem hl)
    refine .inr ⟨go, fun H' => ∃ g, RG X.prog X.w X.K g H' ∧ Ext g1 H1 g H' ∧ wLc src.keep tt tc te D (wipeT δ vs) (fun g2 => Q' (.ref D) g2) (src.items.drop (i + 1)) g,
      fun H' z => ⟨m, Nat.lt_succ_self _, by omega, z⟩, fun x H' y => ?_⟩
    obtain ⟨e2, R2, r2⟩ := yl x H' y
    have S2 := ((S.mono e1.stay).mono (e.trans e2).stay).wipes vs
    refine ⟨_, _, g, _, S2, r2, R2, q, fun δ3 g3 σ3 H3 w3 S3 e3 R3 q3 => ⟨?_, ?_⟩⟩
    · rw [w3]
      have : ∀ (us : List Nat) (σ : L2.St), (∀ u ∈ us, u ∈ vs) → wipe (wipe σ us) vs = wipe σ vs := by
        intro us
        induction us with
        | nil => intro σ _; rfl
        | cons u us ih =>
          intro σ hu
          show wipe ((wipe σ us).set u none) vs = _
          rw [wipe_set (hu u (List.mem_cons_self ..))]
          exact ih σ fun z hz => hu z (List.mem_cons_of_mem _ hz)
      exact this vs σ fun u hu => hu
    · have eA := (e.trans e2).trans e3
      refine ⟨δ3, g3, _, S3, R3, q3, fun b g4 H4 e4 R4 q4 => ?_⟩
      cases b with
      | true =>
        rw [if_pos rfl] at q4
        rw [if_pos rfl]
        refine ⟨δ3, g4, _, S3.mono e4.stay, R4, q4, fun d g5 v H5 r5 e5 R5 q5 => ?_⟩
        obtain ⟨acc, a1, a2, a3⟩ := q5
        cases R5 D _ a1 with
        | @lst _ xs hH hx =>
          have x2 : Ext g5 H5 (gput g5 D (.lst (acc ++ [d]))) (upd H5 D (.lst (xs ++ [v]))) := Ext.put a1
          exact ⟨xs, hH, by rw [← hx.len]; exact a2, _, R5.put a1 (.lst upd_same ((hx.app (.cons r5 .nil)).mono x2.stay)), ((eA.trans e4).trans e5).trans x2, a3⟩
      | false =>
        rw [if_neg Bool.false_ne_true] at q4
        rw [if_neg Bool.false_ne_true]
        exact ⟨g4, R4, eA.trans e4, q4⟩
theorem q_lc {elt tg iter : Expr} {ifs : List Expr} {scope : Scope} {own : List (Str × Nat)} {pos : Pos} {ti : QI} {tt : QG} {tc : QT} {te : QE} (hc : X.calm = true) (hN : X.N.Nodup) (hi : PI X tg iter (lowI X ti)) (ok : BlkOk X.N X.env.scope scope own)
    (hg : ∀ (s : Shared) (H : Hp) (C : Addr) (cl : List (Str × Addr)) (fp : List Addr), PG (X.blk s H scope (compEnvC scope cl C X.env) fp) tg (lowGw X (own.map (·.2)) tt)) (ht : ∀ (s : Shared) (H : Hp) (C : Addr) (cl : List (Str × Addr)) (fp : List Addr), PTs (X.blk s H scope (compEnvC scope cl C X.env) fp) ifs (lowT X tc))
    (he : ∀ (s : Shared) (H : Hp) (C : Addr) (cl : List (Str × Addr)) (fp : List Addr), PE (X.blk s H scope (compEnvC scope cl C X.env) fp) elt (lowE X te)) (hs : ∀ x, foldedSetIterable iter X.env x = pure x := by intro _; rfl) :
    PE X (.ListComp elt [⟨tg, iter, ifs, 0⟩] scope pos) (lowE X (qLc (own.map (·.2)) ti tt tc te)) :=
  PE.imp (pe_lc hc hN hi ok hg ht he hs) fun _ _ _ h => lc_low h
theorem qs_setLc {i : Nat} {y : Str} {py : Pos} {elt tg iter : Expr} {ifs : List Expr} {scope : Scope} {own : List (Str × Nat)} {pos spos : Pos} {ti : QI} {tt : QG} {tc : QT} {te : QE} (hc : X.calm = true) (hN : X.N.Nodup) (hy : X.N[i]? = some y) (hyl : X.env.scope.names.lookup y = some .local)
    (hsw : swapsWith (.ListComp elt [⟨tg, iter, ifs, 0⟩] scope pos) (some (.Name y py)) spos.line X.env = pure true) (hi : PI X tg iter (lowI X ti)) (ok : BlkOk X.N X.env.scope scope own)
    (hg : ∀ (s : Shared) (H : Hp) (C : Addr) (cl : List (Str × Addr)) (fp : List Addr), PG (X.blk s H scope (compEnvC scope cl C X.env) fp) tg (lowGw X (own.map (·.2)) tt)) (ht : ∀ (s : Shared) (H : Hp) (C : Addr) (cl : List (Str × Addr)) (fp : List Addr), PTs (X.blk s H scope (compEnvC scope cl C X.env) fp) ifs (lowT X tc))
    (he : ∀ (s : Shared) (H : Hp) (C : Addr) (cl : List (Str × Addr)) (fp : List Addr), PE (X.blk s H scope (compEnvC scope cl C X.env) fp) elt (lowE X te)) (hs : ∀ x, foldedSetIterable iter X.env x = pure x := by intro _; rfl) :
    PS X (.Assign [.Name y py] (.ListComp elt [⟨tg, iter, ifs, 0⟩] scope pos) spos) (lowS X (qAsg (qLc (own.map (·.2)) ti tt tc te) (gtName i))) := by
  refine PS.imp (ps_setLc hc hN hy hyl hsw hi ok hg ht he hs) fun D σ H ⟨δ, g, D', S, R, h, k⟩ => ?_
  exact lc_low ⟨δ, g, _, S, R, h, fun d g1 v H1 r e R1 q => k.nx _ _ _ _ ((S.mono e.stay).set r) e R1 q⟩

/-! ### augmented assignment, chains of two -/
def qAug (i : Nat) (te : QE) (r : Q2) : QS := fun D δ g => match sl δ i with
  | some d => te δ g fun e g1 => r d e g1 fun z g2 => D.nx (δ.set i (some z)) g2
  | none => False
def lowIp (X : Cx) (r : Q2) : TIp := fun x y H Q => ∃ d1 d2 g Q', TV X.prog X.w X.K g H d1 x ∧ TV X.prog X.w X.K g H d2 y ∧ RG X.prog X.w X.K g H ∧ r d1 d2 g Q' ∧ KE X g H Q' Q
def riAdd : Q2 := fun x y g Q => match x, y with
  | .int i, .int j => Q (.int (i + j)) g
  | _, _ => False
def riSub : Q2 := fun x y g Q => match x, y with
  | .int i, .int j => Q (.int (i - j)) g
  | _, _ => False
theorem i_add : PIp X .Add (lowIp X riAdd) := fun pins s σ H x y v u Q I r1 r2 ⟨d1, d2, g, Q', t1, t2, R, h, k⟩ => by
  unfold riAdd at h
  split at h
  · cases t1; cases t2
    exact ip_add pins s σ H _ _ v u Q I r1 r2 ⟨_, _, rfl, rfl, k _ _ _ _ .int Ext.refl R h⟩
  · exact h.elim
theorem i_sub : PIp X .Sub (lowIp X riSub) := fun pins s σ H x y v u Q I r1 r2 ⟨d1, d2, g, Q', t1, t2, R, h, k⟩ => by
  unfold riSub at h
  split at h
  · cases t1; cases t2
    exact ip_sub pins s σ H _ _ v u Q I r1 r2 ⟨_, _, rfl, rfl, k _ _ _ _ .int Ext.refl R h⟩
  · exact h.elim
theorem qs_aug {i : Nat} {x : Str} {e : Expr} {te : QE} {op : Operator} {r : Q2} {pos' : Pos} (hN : X.N.Nodup) (hi : X.N[i]? = some x) (hx : Loc X.env.scope x) (he : PE X e (lowE X te)) (ho : PIp X op (lowIp X r)) (hf : X.fn x = true ∨ X.env.scope.names.lookup x = some .local := by first | exact .inl rfl | exact .inr rfl | assumption) :
    PS X (.AugAssign (.Name x pos') op e pos) (lowS X (qAug i te r)) := by
  refine PS.imp (ps_aug hN hi hx he ho hf) fun D σ H ⟨δ, g, D', S, R, h, k⟩ => ?_
  unfold qAug at h
  split at h
  · rename_i d e1
    obtain ⟨v, h1, h2⟩ := S.2 i d (sl_get e1)
    refine ⟨v, h1, δ, g, _, S, R, h, fun d1 g1 v1 H1 r1 x1 R1 q1 => ⟨d, d1, g1, _, h2.mono x1.stay, r1, R1, q1, fun d2 g2 v2 H2 r2 x2 R2 q2 => ?_⟩⟩
    exact k.nx _ _ _ _ ((S.mono (x1.trans x2).stay).set r2) (x1.trans x2) R2 q2
  · exact h.elim
end
end TL
set_option Elab.async false
set_option linter.all false
set_option maxRecDepth 100000
set_option maxHeartbeats 4000000
/-! TL11: texts, zip, the keys of a dict walked; freezing a name's thing. -/
namespace TL
open PySem PySem.Spec L2 PyProof.Rows

section
variable {X : Cx} {tg : Expr}
/-! ### a text's signs -/
def signsT (x : Str) : List T := x.cps.toList.map fun c => .str ⟨#[c]⟩
def iStrT (te : QE) : QI := fun δ g R => te δ g fun d g1 => match d with
  | .str x => R ⟨signsT x, yes⟩ g1
  | _ => False
theorem its_ok {x : Str} {g : G} {H : Hp} : ItOk X ⟨signsT x, yes⟩ (Its x) g H where
  go := fun g' H' e R _ i t ht => by
    unfold signsT at ht
    rw [List.getElem?_map] at ht
    cases q : x.cps.toList[i]? with
    | none => simp only [q] at ht; cases ht
    | some c =>
      simp only [q, Option.map_some, Option.some.injEq] at ht
      subst ht
      have q' : x.cps[i]? = some c := by rw [← Array.getElem?_toList]; exact q
      obtain ⟨h1, h2⟩ := Array.getElem?_eq_some_iff.mp q'
      refine ⟨h1, fun y H2 ⟨e1, c', e2, e3⟩ => ?_⟩
      subst e1; subst e3
      rw [q'] at e2
      cases e2
      exact ⟨Ext.refl, R, .str⟩
  stop := fun g' H' e R _ i hi => by
    have : x.cps.size ≤ i := by simpa [signsT] using hi
    exact this
theorem qi_str {e : Expr} {te : QE} (h : PE X e (lowE X te)) : PI X tg e (lowI X (iStrT te)) := by
  refine PI.imp (pi_str h) fun σ H R' ⟨δ, g, R0, S, R, q, k⟩ => ⟨δ, g, _, S, R, q, fun d g1 v H1 r e R1 q1 => ?_⟩
  cases r with
  | str => exact ⟨_, rfl, k _ _ _ _ e R1 its_ok q1⟩
  | _ => exact q1.elim

/-! ### zip -/
theorem itz_frz {a b : Addr} {xs ys : List V} {ts us : List T} {g : G} {H : Hp} (ga : g a = none) (ha : Rd H a (.lst xs)) (hx : TVs X.prog X.w X.K g H ts xs) (gb : g b = none) (hb : Rd H b (.lst ys)) (hy : TVs X.prog X.w X.K g H us ys) : ItOk X ⟨zipT ts us, yes⟩ (Itz X.K a b) g H where
  go := fun g' H' e R _ i t ht => by
    obtain ⟨t1, t2, h1, h2, rfl⟩ := zipT_get ht
    obtain ⟨x, h3, h4⟩ := hx.get h1
    obtain ⟨y, h5, h6⟩ := hy.get h2
    have ra := (e.stay _ _ ga ha).2
    have rb := (e.stay _ _ gb hb).2
    refine ⟨⟨xs, ys, x, y, .inl ra, .inl rb, h3, h5⟩, fun v H2 ⟨Tn, x', y', e1, hT, e2, q1, q2⟩ => ?_⟩
    subst e1; subst e2
    have := q1 xs (.inl ra)
    rw [h3] at this; cases this
    have := q2 ys (.inl rb)
    rw [h5] at this; cases this
    exact ⟨Ext.new hT, R.new hT, .tup (R.fresh hT) (.inl upd_same) (.cons ((h4.mono e.stay).mono (Ext.new hT).stay) (.cons ((h6.mono e.stay).mono (Ext.new hT).stay) .nil))⟩
  stop := fun g' H' e R _ i hi => ⟨xs, ys, .inl (e.stay _ _ ga ha).2, .inl (e.stay _ _ gb hb).2, by
    rw [← hx.len, ← hy.len]; simp only [zipT_len] at hi; omega⟩
theorem itzT_frz {a b : Addr} {xs ys : List V} {ts us : List T} {g : G} {H : Hp} (ga : g a = none) (ha : Rd H a (.tup xs)) (hx : TVs X.prog X.w X.K g H ts xs) (gb : g b = none) (hb : Rd H b (.tup ys)) (hy : TVs X.prog X.w X.K g H us ys) : ItOk X ⟨zipT ts us, yes⟩ (RZ.ItzT X.K a b) g H where
  go := fun g' H' e R _ i t ht => by
    obtain ⟨t1, t2, h1, h2, rfl⟩ := zipT_get ht
    obtain ⟨x, h3, h4⟩ := hx.get h1
    obtain ⟨y, h5, h6⟩ := hy.get h2
    have ra := (e.stay _ _ ga ha).2
    have rb := (e.stay _ _ gb hb).2
    refine ⟨⟨xs, ys, x, y, .inl ra, .inl rb, h3, h5⟩, fun v H2 ⟨Tn, x', y', e1, hT, e2, q1, q2⟩ => ?_⟩
    subst e1; subst e2
    have := q1 xs (.inl ra)
    rw [h3] at this; cases this
    have := q2 ys (.inl rb)
    rw [h5] at this; cases this
    exact ⟨Ext.new hT, R.new hT, .tup (R.fresh hT) (.inl upd_same) (.cons ((h4.mono e.stay).mono (Ext.new hT).stay) (.cons ((h6.mono e.stay).mono (Ext.new hT).stay) .nil))⟩
  stop := fun g' H' e R _ i hi => ⟨xs, ys, .inl (e.stay _ _ ga ha).2, .inl (e.stay _ _ gb hb).2, by
    rw [← hx.len, ← hy.len]; simp only [zipT_len] at hi; omega⟩
def iZipT (t : QA) : QI := fun δ g R => t δ g fun ds g1 => match ds with
  | [.tup ts, .tup us] => R ⟨zipT ts us, yes⟩ g1
  | [.lst ts, .lst us] => R ⟨zipT ts us, yes⟩ g1
  | _ => False
theorem qi_zip {e e2 : Expr} {t : QA} {p pos tpos : Pos} {elts : List Expr} {kk : Nat} (hg : Gl X "zip") (hm : X.mg "zip" = none) (ha : PA X [e, e2] (lowA X t))
    (hs : starEach [e, e2] X.env = (false, eval e X.env) :: starEach [e2] X.env := by rfl) (hpl : (backTo pos (starEach [e2] X.env)).any (·.1) = false := by rfl) :
    PI X (.Tuple elts kk tpos) (.Call (.Name "zip" p) [e, e2] [] pos) (lowI X (iZipT t)) := by
  refine PI.imp (RZ.pi_zipA hg hm ha hs hpl) fun σ H R' ⟨δ, g, R0, S, R, q, k⟩ => ⟨δ, g, _, S, R, q, fun ds g1 vs H1 r e R1 q1 => ?_⟩
  split at q1
  · cases r with
    | cons r1 rr =>
      cases rr with
      | cons r2 rr =>
        cases rr
        cases r1 with
        | tup a1 a2 a3 =>
          cases r2 with
          | tup b1 b2 b3 => exact ⟨_, _, _, _, rfl, .inr ⟨.inl a2, .inl b2, k _ _ _ _ e R1 (itzT_frz a1 a2 a3 b1 b2 b3) q1⟩⟩
  · cases r with
    | cons r1 rr =>
      cases rr with
      | cons r2 rr =>
        cases rr
        cases r1 with
        | lst a1 a2 a3 =>
          cases r2 with
          | lst b1 b2 b3 => exact ⟨_, _, _, _, rfl, .inl ⟨.inl a2, .inl b2, k _ _ _ _ e R1 (itz_frz a1 a2 a3 b1 b2 b3) q1⟩⟩
  · exact q1.elim

/-! ### the keys of a dict -/
theorem relV_inj {a b : V} {u : Value} (h1 : L2.RelV a u) (h2 : L2.RelV b u) : a = b := by
  cases a <;> cases b <;> simp only [L2.RelV] at h1 h2 <;>
    first
      | rfl
      | (subst h1; cases h2; rfl)
      | (obtain ⟨t, rfl⟩ := h1; obtain ⟨t', h2⟩ := h2; cases h2; rfl)
      | (obtain ⟨t, rfl⟩ := h1; obtain ⟨t', h2⟩ := h2; cases h2; done)
      | (subst h1; obtain ⟨t', h2⟩ := h2; cases h2)
      | (obtain ⟨t, rfl⟩ := h1; cases h2)
/-- the keys of the locked dict at d -/
def ItO (d : Addr) (od : Obj) (es : Array DictEntry) : It :=
  ⟨fun i H => (∃ u, H d = some (.frz od u)) ∧ ∃ en x, es[i]? = some en ∧ RelV x en.key, fun i H x H' => H' = H ∧ ∃ en, es[i]? = some en ∧ RelV x en.key, fun i H => (∃ u, H d = some (.frz od u)) ∧ es.size ≤ i⟩
theorem frz_at {pins : List (Addr × Obj)} {σ : L2.St} {H : Hp} {s : Shared} {d : Addr} {od : Obj} {u : HO} (I : Inv X pins σ H s) (h : H d = some (.frz od u)) : s.heap.get? d = some od := (I.hok d _ h).1
theorem turn_keysO {P : Program} {w : World} {K : PySem.W.Frag} {tg : Expr} {d : Addr} {od : Obj} {es : Array DictEntry} {ep : Nat} (it : Addr) (hx : od.ExactDict) (hod : od.data = .dict es ep) : Turn P w K tg (ItO d od es) [it] it (fun i h => h.IsKeyIter it d i es.size ep) where
  mem := by simp
  obj := fun i h st b hb => by
    have e : b = it := by simpa using hb
    subst e
    obtain ⟨oi, e, c, dd⟩ := st
    exact ⟨oi, e, fun v z => by rw [dd] at z; cases z⟩
  keep := fun i h h' st k => st.at fun oi e => k it (by simp) oi e
  item := by
    intro X hP hw hK hc i pins s σ H E I hf st hg
    subst hP hw hK
    obtain ⟨⟨u, hd⟩, en, x, hen, rx⟩ := hg
    obtain ⟨f0, f1, f2, f3, f4, f5⟩ := hf it (by simp)
    refine next_key_item st (frz_at I hd) hod rfl hen fun h' st' sb => ?_
    have I1 : Inv X pins σ H { s with heap := h' } := I.turned (t' := s.toks) (fun b ob hb e => (sb.2 b hb).trans e) f0 f1 f3 f4 f5
    obtain ⟨oi, e, c, dd⟩ := id st'
    exact ⟨en.key, rfl, go_of (s := { s with heap := h' }) e c dd (by decide) ⟨x, H, I1, rx, ⟨rfl, en, hen, rx⟩, st', fun b hb => (hf b hb).1⟩⟩
  done := by
    intro X hP hw hK hc i pins s σ H E I hf st hg
    subst hP hw hK
    obtain ⟨⟨u, hd⟩, hi⟩ := hg
    obtain ⟨f0, f1, f2, f3, f4, f5⟩ := hf it (by simp)
    exact next_key_end (I.ok.hd hc) st (frz_at I hd) hod rfl hi fun h' eb => ⟨rfl, I.turned (t' := s.toks) (fun b ob hb e => eb b ob hb e) f0 f1 f3 f4 f5⟩
  self := fun A i s Q E st h => by
    refine wpAny_pyIter_slot st.typeIs F.slot_dict_keyiterator_iter (wpAny_call_entry F.slot_dict_keyiterator_iter st.typeIs F.entry_dict_keyiterator_iter ?_ (F.args_dict_keyiterator_iter_1 _))
    show wpAny _ _ (ret (.ref it)) _ _ s
    exact wpAny_pure ⟨_, rfl, "dict_keyiterator", _, st.typeIs, F.slot_dict_keyiterator_next.lookup, h⟩
/-- a frozen dict is locked for good -/
theorem dct_lock {pins : List (Addr × Obj)} {σ : L2.St} {H : Hp} {s : Shared} {g : G} {a : Addr} {u : HO} {kvs : List (T × T)} (I : Inv X pins σ H s) (R : RG X.prog X.w X.K g H) (ga : g a = none) (ha : Rd H a u) (d : DR X.prog X.w X.K g H a u kvs) :
    ∃ od H', Inv X pins σ H' s ∧ Ext g H g H' ∧ RG X.prog X.w X.K g H' ∧ H' a = some (.frz od u) ∧ DR X.prog X.w X.K g H' a u kvs := by
  rcases ha with ha | ⟨od, ha⟩
  · obtain ⟨od, I2⟩ := I.lock ha (mut_dr d)
    have e : Ext g H g (upd H a (.frz od u)) := fun b o h1 h2 => by
      by_cases q : b = a
      · subst q
        rw [ha] at h2
        cases h2
        exact ⟨h1, .inr ⟨mut_dr d, od, upd_same⟩⟩
      · exact ⟨h1, .inl (by rw [upd_ne q]; exact h2)⟩
    refine ⟨od, _, I2, e, fun b o hb => ?_, upd_same, d.mono e.stay⟩
    exact (R b o hb).mono e.stay (upd_ne fun z => by subst z; rw [ga] at hb; cases hb)
  · exact ⟨od, H, I, Ext.refl, R, ha, d⟩
theorem ito_ok {g : G} {H : Hp} {a : Addr} {od : Obj} {u : HO} {es : Array DictEntry} {kvs : List (T × T)} (ga : g a = none) (ha : H a = some (.frz od u)) (hz : es.size = kvs.length)
    (hk : ∀ (i : Nat) (k t : T), kvs[i]? = some (k, t) → ∃ en kv tv, es[i]? = some en ∧ RelV kv en.key ∧ TV X.prog X.w X.K g H k kv ∧ RelV tv en.val ∧ TV X.prog X.w X.K g H t tv) : ItOk X ⟨kvs.map (·.1), yes⟩ (ItO a od es) g H where
  go := fun g' H' e R _ i t ht => by
    rw [List.getElem?_map] at ht
    cases q : kvs[i]? with
    | none => simp only [q] at ht; cases ht
    | some p =>
      simp only [q, Option.map_some, Option.some.injEq] at ht
      subst ht
      obtain ⟨en, kv, tv, q1, q2, q3, _⟩ := hk i p.1 p.2 q
      obtain ⟨x1, x2⟩ := e a _ ga ha
      have hl : H' a = some (.frz od u) := by
        rcases x2 with x2 | ⟨m, _⟩
        · exact x2
        · exact m.elim
      refine ⟨⟨⟨u, hl⟩, en, kv, q1, q2⟩, fun x H2 ⟨e1, en', e2, e3⟩ => ?_⟩
      subst e1
      rw [q1] at e2
      cases e2
      cases relV_inj e3 q2
      exact ⟨Ext.refl, R, q3.mono e.stay⟩
  stop := fun g' H' e R _ i hi => by
    obtain ⟨x1, x2⟩ := e a _ ga ha
    have hl : H' a = some (.frz od u) := by
      rcases x2 with x2 | ⟨m, _⟩
      · exact x2
      · exact m.elim
    exact ⟨⟨u, hl⟩, by rw [hz]; simpa using hi⟩
def iKeysT (te : QE) : QI := fun δ g R => te δ g fun d g1 => match d with
  | .dct kvs => R ⟨kvs.map (·.1), yes⟩ g1
  | _ => False
theorem qi_keys {e : Expr} {te : QE} (h : PE X e (lowE X te)) : PI X tg e (lowI X (iKeysT te)) := by
  refine ⟨fun pins s σ H R' I ⟨δ, g, R0, S, R, q, k⟩ => ?_⟩
  refine thn (h.run pins s σ H (fun v H1 => ∃ d g1, TV X.prog X.w X.K g1 H1 d v ∧ Ext g H g1 H1 ∧ RG X.prog X.w X.K g1 H1 ∧ (match d with
    | .dct kvs => R0 ⟨kvs.map (·.1), yes⟩ g1
    | _ => False)) I ⟨δ, g, _, S, R, q, fun d g1 v H1 r e R1 q1 => ⟨d, g1, r, e, R1, q1⟩⟩) fun u s1 ⟨x, H1, I1, rx, d, g1, r, e, R1, q1⟩ => ?_
  cases r with
  | @dct a u0 kvs ga ha dr =>
    obtain rfl : u = Value.ref a := rx
    obtain ⟨od, H2, I2, e2, R2, hl, dr2⟩ := dct_lock I1 R1 ga ha dr
    obtain ⟨es, ep, ⟨o, h1, h2, h3⟩, hz, hs, hsz, hk⟩ := dict_ent I2.hok (.inr ⟨od, hl⟩) dr2
    have h0 := frz_at I2 hl
    rw [h0] at h1
    cases h1
    exact iter_keys hs h0 h2 h3 (pi_one (tk := s1.toks) I2 _ (turn_keysO _ h2 h3) ⟨_, Heap.get?_push_size _ rfl, rfl, rfl⟩ (k _ _ _ _ (e.trans e2) R2 (ito_ok ga hl hz hk) q1))
  | _ => exact q1.elim

/-! ### from here on the thing of the i-th name is never changed -/
def qFz (i : Nat) (t : QS) : QS := fun D δ g => match sl δ i with
  | some (.ref a) => (match g a with
    | some (.lst ts) => t D (δ.set i (some (.lst ts))) (gdel g a)
    | some (.dct kvs) => t D (δ.set i (some (.dct kvs))) (gdel g a)
    | _ => False)
  | _ => False
theorem StR.put1 {P : Program} {w : World} {K : PySem.W.Frag} {g : G} {H : Hp} {δ : TSt} {σ : L2.St} {i : Nat} {t : T} {v : V} (h : StR P w K g H δ σ) (e : σ[i]? = some (some v)) (r : TV P w K g H t v) : StR P w K g H (δ.set i (some t)) σ := by
  refine ⟨by simp [h.1], fun j u q => ?_⟩
  by_cases z : i = j
  · subst z
    by_cases hl : i < δ.length
    · rw [List.getElem?_set_self hl] at q
      cases q
      exact ⟨v, e, r⟩
    · rw [List.getElem?_eq_none (by simpa using hl)] at q; cases q
  · rw [List.getElem?_set_ne z] at q
    exact h.2 j u q
theorem fz_low {i : Nat} {t : QS} {D : Ends} {σ : L2.St} {H : Hp} (h : lowS X (qFz i t) D σ H) : lowS X t D σ H := by
  obtain ⟨δ, g, D', S, R, q, k⟩ := h
  unfold qFz at q
  split at q
  · rename_i a e
    obtain ⟨v, h1, h2⟩ := S.2 i _ (sl_get e)
    cases h2
    have x2 : Ext g H (gdel g a) H := Sub.ext sub_del
    split at q
    · rename_i ts ga
      exact ⟨_, _, D', (S.mono x2.stay).put1 h1 (frz_lst R ga), R.sub sub_del, q, k.ext x2⟩
    · rename_i ts ga
      exact ⟨_, _, D', (S.mono x2.stay).put1 h1 (frz_dct R ga), R.sub sub_del, q, k.ext x2⟩
    · exact q.elim
  · exact q.elim
theorem qs_fz {st : Stmt} {t : QS} (i : Nat) (h : PS X st (lowS X t)) : PS X st (lowS X (qFz i t)) := PS.imp h fun _ _ _ => fz_low
theorem qss_fz {st : List Stmt} {t : QS} (i : Nat) (h : PSs X st (lowS X t)) : PSs X st (lowS X (qFz i t)) := PSs.imp h fun _ _ _ => fz_low
end
end TL
set_option Elab.async false
set_option linter.all false
set_option maxRecDepth 100000
set_option maxHeartbeats 4000000
/-! TL12: methods of dicts: get, setdefault; dict(d), update (int and text keys); list(d.values()). -/
namespace TL
open PySem PySem.Spec L2 PyProof.Rows

section
variable {X : Cx} {pins : List (Addr × Obj)} {σ : L2.St} {H : Hp} {s : Shared} {g : G} {A : Around} {E : Value → Shared → Prop}
theorem dt_get1 {a : Addr} {u : HO} {kvs : List (T × T)} {k : T} {v : V} {kv : Value} {Q : Value → Shared → Prop} (hu : A.units + 9 < cLine) (I : Inv X pins σ H s) (e : Rd H a u) (d : DR X.prog X.w X.K g H a u kvs) (r : TV X.prog X.w X.K g H k v) (rv : L2.RelV v kv) (ok : kOk kvs k = true)
    (h : ∀ tk tv tu, TV X.prog X.w X.K g H ((look kvs k).getD .non) tv → L2.RelV tv tu → Q tu { s with toks := tk }) : wpAny (model X.prog X.w) A (call (.builtin "dict.get") [.ref a, kv]) Q E s := by
  rcases kOk_or ok with ⟨⟨x, ex⟩, hf⟩ | ⟨ht, hf⟩
  · obtain ⟨⟨ks, vs, q1, q2, dd, hz⟩, hs⟩ := dflat I.hok e d hf
    have := key_val r ex; subst this
    have hk := fk_key ex; subst hk
    have z := q2.val x
    rcases q1.look x with ⟨e1, e2⟩ | ⟨tv, t', e1, e2, e3⟩ <;> rw [e2] at h <;> rw [e1] at z
    · exact call_meetsIn PySem.F.slot_dict_get dd.typeIs PySem.F.entry_dict_get (PySem.F.args_dict_get_2 _ _) (meets_dict_get (mixKind X.prog X.w) a (kV_is rv) hs) ⟨_, dd.mapOf, h _ .non _ .non (z.getD rfl)⟩
    · exact call_meetsIn PySem.F.slot_dict_get dd.typeIs PySem.F.entry_dict_get (PySem.F.args_dict_get_2 _ _) (meets_dict_get (mixKind X.prog X.w) a (kV_is rv) hs) ⟨_, dd.mapOf, h _ tv _ e3 (z.getD (d := .non) rfl)⟩
  · obtain ⟨⟨xs, q1, dd, hz⟩, hs⟩ := dnest I.hok e d hf
    obtain ⟨nk, en, hd⟩ := tupK_get ht
    obtain ⟨b, rfl⟩ := tup_ref r ht
    cases rv
    have hr : A.in1.in1.units + 7 < cLine := by show A.units + 1 + 1 + 7 < cLine; omega
    refine call_meetsIn PySem.F.slot_dict_get dd.typeIs PySem.F.entry_dict_get (PySem.F.args_dict_get_2 _ _) (meetsH_dict_get (nestedKind X.prog X.w) a b hs) ⟨by show A.in1.units + 8 < cLine; show A.units + 1 + 8 < cLine; omega, nk, xs, (⟨TV.nested I.hok _ _ _ _ r en rfl, hd⟩ : (nestedKind X.prog X.w).is s.heap nk b), dd, ?_⟩
    rcases q1.look en with ⟨e1, e2⟩ | ⟨b', u', t', tv, e1, e2, e3, e4⟩ <;> rw [e1] <;> rw [e2] at h
    · exact h _ .non _ .non rfl
    · exact h _ tv _ e4 e3
theorem dt_get2 {a : Addr} {u : HO} {kvs : List (T × T)} {k w : T} {v wv : V} {kv wu : Value} {Q : Value → Shared → Prop} (hu : A.units + 9 < cLine) (I : Inv X pins σ H s) (e : Rd H a u) (d : DR X.prog X.w X.K g H a u kvs) (r : TV X.prog X.w X.K g H k v) (rv : L2.RelV v kv) (rw' : TV X.prog X.w X.K g H w wv) (rwv : L2.RelV wv wu) (ok : kOk kvs k = true)
    (h : ∀ tk tv tu, TV X.prog X.w X.K g H ((look kvs k).getD w) tv → L2.RelV tv tu → Q tu { s with toks := tk }) : wpAny (model X.prog X.w) A (call (.builtin "dict.get") [.ref a, kv, wu]) Q E s := by
  rcases kOk_or ok with ⟨⟨x, ex⟩, hf⟩ | ⟨ht, hf⟩
  · obtain ⟨⟨ks, vs, q1, q2, dd, hz⟩, hs⟩ := dflat I.hok e d hf
    have := key_val r ex; subst this
    have hk := fk_key ex; subst hk
    have z := q2.val x
    rcases q1.look x with ⟨e1, e2⟩ | ⟨tv, t', e1, e2, e3⟩ <;> rw [e2] at h <;> rw [e1] at z
    · exact call_meetsIn PySem.F.slot_dict_get dd.typeIs PySem.F.entry_dict_get (PySem.F.args_dict_get_3 _ _ _) (meets_dict_get_default (mixKind X.prog X.w) a (kV_is rv) hs wu) ⟨_, dd.mapOf, h _ wv _ rw' (z.getD rwv)⟩
    · exact call_meetsIn PySem.F.slot_dict_get dd.typeIs PySem.F.entry_dict_get (PySem.F.args_dict_get_3 _ _ _) (meets_dict_get_default (mixKind X.prog X.w) a (kV_is rv) hs wu) ⟨_, dd.mapOf, h _ tv _ e3 (z.getD rwv)⟩
  · obtain ⟨⟨xs, q1, dd, hz⟩, hs⟩ := dnest I.hok e d hf
    obtain ⟨nk, en, hd⟩ := tupK_get ht
    obtain ⟨b, rfl⟩ := tup_ref r ht
    cases rv
    refine call_meetsIn PySem.F.slot_dict_get dd.typeIs PySem.F.entry_dict_get (PySem.F.args_dict_get_3 _ _ _) (meetsH_dict_get_default (nestedKind X.prog X.w) a b hs wu) ⟨by show A.in1.units + 8 < cLine; show A.units + 1 + 8 < cLine; omega, nk, xs, (⟨TV.nested I.hok _ _ _ _ r en rfl, hd⟩ : (nestedKind X.prog X.w).is s.heap nk b), dd, ?_⟩
    rcases q1.look en with ⟨e1, e2⟩ | ⟨b', u', t', tv, e1, e2, e3, e4⟩ <;> rw [e1] <;> rw [e2] at h
    · exact h _ wv _ rw' rwv
    · exact h _ tv _ e4 e3
end
section
variable {X : Cx}
/-- d.get(k), d.get(k, x) -/
def mGet1 : QM := m1 fun d k g Q => match res g d with
  | .dct kvs => kOk kvs k = true ∧ Q ((look kvs k).getD .non) g
  | _ => False
def mGet2 : QM := m2 fun d k x g Q => match res g d with
  | .dct kvs => kOk kvs k = true ∧ Q ((look kvs k).getD x) g
  | _ => False
theorem d_get1 (hu : X.A.units + 9 < cLine) : MtR X "dict.get" (lowM X mGet1) := by
  intro pins s σ H x vs v us Q I rx rv h
  obtain ⟨y, d, e, g, Q', rfl, r, r1, R, hh, k⟩ := low_m1 h
  have q1 := res_rv R r
  split at hh
  · rename_i kvs e1
    rw [e1] at q1
    obtain ⟨a, u, rfl, ha, hd⟩ := q1.toDct
    cases rx
    obtain ⟨ku, rfl, ru⟩ := L2.Vals.one rv
    exact dt_get1 hu I ha hd r1 ru hh.1 fun tk tv tu rt rtv => ⟨tv, H, I.tok _, rtv, k _ _ _ _ rt Ext.refl R hh.2⟩
  · exact hh.elim
theorem d_get2 (hu : X.A.units + 9 < cLine) : MtR X "dict.get" (lowM X mGet2) := by
  intro pins s σ H x vs v us Q I rx rv h
  obtain ⟨y, z, d, e, e', g, Q', rfl, r, r1, r2, R, hh, k⟩ := low_m2 h
  have q1 := res_rv R r
  split at hh
  · rename_i kvs e1
    rw [e1] at q1
    obtain ⟨a, u, rfl, ha, hd⟩ := q1.toDct
    cases rx
    cases rv with
    | cons ru rr =>
      obtain ⟨wu, rfl, rw'⟩ := L2.Vals.one rr
      exact dt_get2 hu I ha hd r1 ru r2 rw' hh.1 fun tk tv tu rt rtv => ⟨tv, H, I.tok _, rtv, k _ _ _ _ rt Ext.refl R hh.2⟩
  · exact hh.elim
/-- d.setdefault(k, x) -/
def mSetD : QM := m2 fun d k x g Q => gd g d fun a kvs => kOk kvs k = true ∧ kvs.length < sizeLine ∧ (match look kvs k with
  | some t => Q t g
  | none => Q x (gput g a (.dct (kvs ++ [(k, x)]))))
theorem putT_new {kvs : List (T × T)} {k v : T} (h : look kvs k = none) : putT kvs k v = kvs ++ [(k, v)] := by unfold putT; rw [h]; rfl
theorem d_setd (hu : X.A.units + 9 < cLine) : MtR X "dict.setdefault" (lowM X mSetD) := by
  intro pins s σ H x vs v us Q I rx rv h
  obtain ⟨y, z, d, e, e', g, Q', rfl, r, r1, r2, R, hh, kk⟩ := low_m2 h
  obtain ⟨a, kvs, rfl, ga, ok, hl, hq⟩ := gd_at hh
  cases r
  cases rx
  cases rv with
  | cons ru rr =>
    obtain ⟨wu, rfl, rwu⟩ := L2.Vals.one rr
    cases R a _ ga with
    | @dct _ u hH dr =>
      rcases kOk_or ok with ⟨⟨x, ex⟩, hf⟩ | ⟨ht, hf⟩
      · obtain ⟨⟨ks, vs, q1, q2, dd, hz⟩, hs⟩ := dflat I.hok (.inl hH) dr hf
        have := key_val r1 ex; subst this
        have hk := fk_key ex; subst hk
        have zz := q2.val x
        refine call_meetsIn PySem.F.slot_dict_setdefault dd.typeIs PySem.F.entry_dict_setdefault (PySem.F.args_dict_setdefault_3 _ _ _) (kt_meets_setdefault (mixKind X.prog X.w) a (kV_is ru) hs wu) ⟨vs, dd, hz, fun v hv => ?_, fun hn h' dd' sb => ?_⟩
        · rcases q1.look x with ⟨e1, e2⟩ | ⟨tv, t', e1, e2, e3⟩
          · rw [e1, hv] at zz; cases zz
          · rw [e2] at hq
            rw [e1, hv] at zz
            show EP X pins σ Q v _
            exact ⟨tv, H, I.tok _, zz, kk _ _ _ _ e3 Ext.refl R hq⟩
        · rcases q1.look x with ⟨e1, e2⟩ | ⟨tv, t', e1, e2, e3⟩
          · rw [e2] at hq
            have he : ∃ q, h'.get? a = some q := let ⟨q, _, _, hq, _⟩ := dd'; ⟨q, hq⟩
            have hkl := q1.len
            have hl2 : (putK ks x z).length ≤ sizeLine := by have := length_putK ks x z; omega
            obtain ⟨z1, z2, z3⟩ := dt_done (tk := s.toks + 1) (kvs' := putT kvs (keyT x) e') I R ga hH dr sb he (dk_new hl2 hs (q2.put x rwu) dd') (.k (q1.put x r2))
            rw [putT_new e2] at z2 z3
            exact ⟨z, _, z1, rwu, kk _ _ _ _ (r2.mono z2.stay) z2 z3 hq⟩
          · rw [e1, hn] at zz; cases zz
      · obtain ⟨⟨xs, q1, dd, hz⟩, hs⟩ := dnest I.hok (.inl hH) dr hf
        obtain ⟨nk, en, hd⟩ := tupK_get ht
        obtain ⟨b, rfl⟩ := tup_ref r1 ht
        cases ru
        refine call_setdefault_heap (knd := nestedKind X.prog X.w) (by show X.A.in1.units + 8 < cLine; show X.A.units + 1 + 8 < cLine; omega) (⟨TV.nested I.hok _ _ _ _ r1 en rfl, hd⟩ : (nestedKind X.prog X.w).is s.heap nk b) hs dd (fun p hp => ?_) (fun hn h' dd' sb => ?_) hz
        · rcases q1.look en with ⟨e1, e2⟩ | ⟨b', u', t', tv, e1, e2, e3, e4⟩
          · rw [e1] at hp; cases hp
          · rw [e1] at hp; cases hp
            rw [e2] at hq
            exact ⟨tv, H, I.tok _, e3, kk _ _ _ _ e4 Ext.refl R hq⟩
        · rcases q1.look en with ⟨e1, e2⟩ | ⟨b', u', t', tv, e1, e2, e3, e4⟩
          · rw [e2] at hq
            obtain ⟨o, es, ep, w1, w2, w3, w4, _, w5⟩ := dd'
            have q3 := q1.put en r1 hd rwu r2
            have hkl := q1.len
            have hz2 : (storedH xs nk b wu).length ≤ sizeLine := by
              rw [← q3.len]; have := putT_len kvs e e'; omega
            obtain ⟨z1, z2, z3⟩ := dt_done (tk := s.toks + (nestedKind X.prog X.w).draws nk) (kvs' := putT kvs e e') I R ga hH dr sb ⟨o, w1⟩ (dn_ok ⟨o, es, ep, w1, w2, w3, w4, w5⟩ hz2 hs) (.n q3)
            rw [putT_new e2] at z2 z3
            exact ⟨z, _, z1, rwu, kk _ _ _ _ (r2.mono z2.stay) z2 z3 hq⟩
          · rw [e1] at hn; cases hn
end

/-! ### list(d.values()) -/
section
variable {X : Cx}
def qLV (te : QE) : QE := fun δ g Q => te δ g fun d g1 => match res g1 d with
  | .dct kvs => ∀ p, g1 p = none → Q (.ref p) (gput g1 p (.lst (kvs.map (·.2))))
  | _ => False
theorem q_listValues {e : Expr} {te : QE} {p ap cp pos : Pos} (hc : X.calm = true) (hg : Gl X "list") (hm : X.mg "list" = none) (he : PE X e (lowE X te)) (hbase : attributeBase e "values" X.env (eval e X.env) = eval e X.env := by rfl) (hline : (ap.endLine == cp.line) = true := by rfl) :
    PE X (.Call (.Name "list" p) [.Call (.Attribute e "values" ap) [] [] cp] [] pos) (lowE X (qLV te)) := by
  refine ⟨fun pins s σ H Q I ⟨δ, g, Q', S, R, h, k⟩ => ?_⟩
  refine Call_ (ld_blt I hg hm PyProof.Rows.boot_list ?_)
  refine PyProof.Rows.callWith_type1 (PyProof.Rows.args_cons ?_ rfl) rfl rfl
  refine wpAny_Call_method (T := "dict") (id := "dict.values") hbase rfl hline F.plainAttrs_dict F.slot_dict_values F.type_dict_values (thn (he.run pins s σ H (fun v H1 => ∃ d g1, TV X.prog X.w X.K g1 H1 d v ∧ Ext g H g1 H1 ∧ RG X.prog X.w X.K g1 H1 ∧ (match res g1 d with
    | .dct kvs => ∀ p, g1 p = none → Q' (.ref p) (gput g1 p (.lst (kvs.map (·.2))))
    | _ => False)) I ⟨δ, g, _, S, R, h, fun d g1 v H1 r e R1 q1 => ⟨d, g1, r, e, R1, q1⟩⟩) fun u s1 ⟨x, H1, I1, rx, d, g1, r, e, R1, q1⟩ => ?_)
  have q := res_rv R1 r
  split at q1
  · rename_i kvs e1
    rw [e1] at q
    obtain ⟨a, ho, rfl, ha, hd⟩ := q.toDct
    obtain rfl : u = Value.ref a := rx
    obtain ⟨es, ep, hr, hsz, hs, hz, hen⟩ := dict_ent I1.hok ha hd
    refine ⟨hr.typeIs, fun b q => ?_, ?_⟩
    · cases q
      obtain ⟨o, h1, h2, _⟩ := hr
      exact ⟨o, h1, h2.2.1⟩
    have I2 : Inv X pins σ H1 { s1 with heap := s1.heap.push { cls := .type "dict_values", data := .fields #[.ref a] } } := I1.kept (t' := s1.toks) fun b ob q => Heap.get?_push_of_some _ q
    refine method_meetsIn F.slot_dict_values F.entry_dict_values rfl (PySem.evalArgs_none ⟨rfl, hr.typeIs, F.args_dict_values_1 _, _, PySem.meets_dict_values_raw a hs, ⟨⟨es, ep, hr⟩, ?_⟩⟩)
    refine PyProof.Rows.args_nil ?_
    refine PySem.W.kdl_call (r := s1.heap.objs.size) (KdlSrc.rawValues) (I2.ok.hd hc) ⟨⟨_, Heap.get?_push_size _ rfl, rfl, rfl⟩, hr.push _⟩ (by omega) fun h' tk acc c kp hl ho => ?_
    have hal : acc.toList.length = es.size := by
      have := ho.1
      simpa using this
    obtain ⟨vs, h1, h2⟩ := vals_of (P := X.prog) (w := X.w) (K := X.K) (g := g1) (H := H1) (kvs.map (·.2)) acc.toList (by rw [List.length_map, hal, hsz]) fun i t u e1 e2 => by
      rw [List.getElem?_map] at e1
      cases q0 : kvs[i]? with
      | none => rw [q0] at e1; cases e1
      | some kt =>
        rw [q0] at e1
        obtain ⟨k0, t0⟩ := kt
        obtain rfl : t0 = t := by simpa using e1
        obtain ⟨en, kv, tv, z1, z2, z3, z4, z5⟩ := hen i _ _ q0
        obtain ⟨hi, e3⟩ := ho.2 i u (by simpa using e2)
        have : es[i]? = some es[i] := by simp [hi]
        rw [this] at z1
        cases z1
        exact ⟨tv, by rw [e3]; exact z4, z5⟩
    exact new_list (c := c) I2 R1 (k.ext e) h1 h2 (by rw [List.length_map]; exact hz) kp (by rw [Array.toArray_toList]; exact hl) q1
  · exact q1.elim

/-! ### dict(d), d.update(d2): int and text keys -/
def flatD (kvs : List (T × T)) : Bool := kvs.all fun p => flatK p.1
def bDict : QC := c1 fun d g Q => match res g d with
  | .dct kvs => flatD kvs = true ∧ ∀ p, g p = none → Q (.ref p) (gput g p (.dct kvs))
  | _ => False
theorem dk_of_flat {P : Program} {w : World} {K : PySem.W.Frag} {g : G} {H : Hp} {a : Addr} {u : HO} {kvs : List (T × T)} (d : DR P w K g H a u kvs) (hf : flatD kvs = true) : (∃ ks, u = .dK ks ∧ KVs P w K g H kvs ks) ∨ kvs = [] := by
  cases d with
  | k x => exact .inl ⟨_, rfl, x⟩
  | n x =>
    cases x with
    | nil => exact .inr rfl
    | @cons kt _ _ _ _ _ _ _ e1 a2 _ _ _ _ =>
      simp only [flatD, List.all_cons, Bool.and_eq_true] at hf
      have hk := hf.1
      cases a2 <;> simp [flatK, fk] at hk
theorem b_dict : CallR X (.type "dict") (lowC X bDict) := by
  intro pins s σ H xs us Q I rx h
  obtain ⟨x, d, g, Q', rfl, r, R, hh, k⟩ := low_c1 h
  clear h
  have q := res_rv R r
  split at hh
  · rename_i kvs e
    rw [e] at q
    obtain ⟨a, ho, rfl, ha, hd⟩ := q.toDct
    obtain ⟨u, rfl, ru⟩ := rx.one
    cases ru
    obtain ⟨⟨ks, vs, q1, rel, dd, z⟩, hs⟩ := dflat I.hok ha hd hh.1
    have hlen := q1.len
    have hlen2 := rel.length
    refine kt_call_dict hs dd z fun h' dd' hs' => ?_
    have hp := I.hok.fresh (Nat.le_refl s.heap.objs.size)
    refine ⟨.ref _, _, I.laid (a := s.heap.objs.size) (o := .dK ks) (t' := s.toks) (fun b q hq => ?_) (Nat.le_refl _) (dk_new (by omega) (beq_eq_false_iff_ne.mpr (Ne.symm (Nat.ne_of_lt I.big))) rel dd'), rfl, ?_⟩
    · exact (hs'.2 b (Nat.ne_of_lt (Heap.lt_size hq))).trans (Heap.get?_push_of_some _ hq)
    · exact k _ _ _ _ .ref (Ext.newG hp) (R.newG hp (.dct upd_same (.k (q1.mono (Ext.newG hp).stay)))) (hh.2 _ (R.fresh hp))
  · exact hh.elim
def mergeT (kvs more : List (T × T)) : List (T × T) := more.foldl (fun acc p => putT acc p.1 p.2) kvs
theorem KVs.merge {P : Program} {w : World} {K : PySem.W.Frag} {g : G} {H : Hp} : ∀ {more : List (T × T)} {ms : List (Key × V)} {kvs : List (T × T)} {ks : List (Key × V)}, KVs P w K g H more ms → KVs P w K g H kvs ks → KVs P w K g H (mergeT kvs more) (mergeK ks ms)
  | _, _, _, _, .nil, b => b
  | _, _, _, _, .cons (k := k) (v := v) (kvs := m) (ks := n) r a, b => by
    have q := KVs.merge a (b.put k r)
    exact q
theorem mergeT_len : ∀ (more kvs : List (T × T)), (mergeT kvs more).length ≤ kvs.length + more.length
  | [], kvs => by simp [mergeT]
  | p :: r, kvs => by
    have h := mergeT_len r (putT kvs p.1 p.2)
    have h2 := putT_len kvs p.1 p.2
    simp only [mergeT, List.foldl_cons] at h ⊢
    simp only [List.length_cons]
    omega
def mUpdate : QM := m1 fun d y g Q => gd g d fun a kvs => match res g y with
  | .dct more => y ≠ .ref a ∧ flatD kvs = true ∧ flatD more = true ∧ kvs.length + more.length ≤ sizeLine ∧ Q .non (gput g a (.dct (mergeT kvs more)))
  | _ => False
theorem d_update : MtR X "dict.update" (lowM X mUpdate) := by
  intro pins s σ H x vs v us Q I rx rv h
  obtain ⟨y, d, e, g, Q', rfl, r, r1, R, hh, kk⟩ := low_m1 h
  obtain ⟨a, kvs, rfl, ga, hq⟩ := gd_at hh
  cases r
  cases rx
  obtain ⟨wu, rfl, rwu⟩ := L2.Vals.one rv
  have q := res_rv R r1
  split at hq
  · rename_i more e1
    obtain ⟨hne, hf1, hf2, hz, hq⟩ := hq
    have hab : ∀ b, y = .ref b → a ≠ b := by
      intro b hb hab
      subst hb; subst hab
      cases r1 with
      | ref => exact hne rfl
      | tup h1 _ _ => rw [ga] at h1; cases h1
      | lst h1 _ _ => rw [ga] at h1; cases h1
      | dct h1 _ _ => rw [ga] at h1; cases h1
      | scr h1 _ => rw [ga] at h1; cases h1
      | scrK _ => simp only [res] at e1; cases e1
    rw [e1] at q
    obtain ⟨b, ho, rfl, ha, hd⟩ := q.toDct
    cases rwu
    cases R a _ ga with
    | @dct _ u hH dr =>
      obtain ⟨⟨ks, vs, q1, rel, dd, z⟩, hs⟩ := dflat I.hok (.inl hH) dr hf1
      obtain ⟨⟨ks2, vs2, q2, rel2, dd2, z2⟩, hs2⟩ := dflat I.hok ha hd hf2
      have l1 := q1.len
      have l2 := rel.length
      have l3 := q2.len
      have l4 := rel2.length
      refine call_meetsIn PySem.F.slot_dict_update dd.typeIs PySem.F.entry_dict_update (PySem.F.args_dict_update_2 _ _) (meets_dict_update (mixKind X.prog X.w) a b (hab b rfl) hs2) ⟨vs, vs2, dd, dd2, by omega, fun h' dd' _ sb => ?_⟩
      have he : ∃ q, h'.get? a = some q := let ⟨q, _, _, hq, _⟩ := dd'; ⟨q, hq⟩
      have q3 := q2.merge q1
      have hl2 : (mergeK ks ks2).length ≤ sizeLine := by rw [← q3.len]; have := mergeT_len more kvs; omega
      obtain ⟨z1, z2, z3⟩ := dt_done (tk := s.toks) (kvs' := mergeT kvs more) I R ga hH dr sb he (dk_new hl2 hs (rel2.merge rel) dd') (.k q3)
      exact ⟨.non, _, z1, rfl, kk _ _ _ _ .non z2 z3 hq⟩
  · exact hq.elim
end
end TL
set_option Elab.async false
set_option linter.all false
set_option maxRecDepth 100000
set_option maxHeartbeats 4000000
/-! TL13: < of data as Python has it: only the first place that differs is asked (after KE.LtSeq). -/
namespace TL.Lt
open PySem PySem.SeqAt
open AutoSeq1 (wpAny_loadPart')
open MeetsSeq MeetsSeq2 MeetsSeq3 SeqRoads2
theorem tuple_ltAt (l b : Addr) (items items2 : Array Value) (n n2 : Nat) (dd dd2 : Option Addr) (sl sl2 : Array (Option Value)) (e r : Nat → Bool) :
    Meets (Builtin.«tuple.__lt__» ⟨[.ref l, .ref b], []⟩)
      (fun A R s => s.heap.get? l = some { cls := .type "tuple", dict := dd, data := .seq items n, slots := sl } ∧ s.heap.get? b = some { cls := .type "tuple", dict := dd2, data := .seq items2 n2, slots := sl2 } ∧
        (∀ j (h1 : j < items.size) (h2 : j < items2.size), EqAt A.in1 s items[j] items2[j] (e j)) ∧ (∀ j (h1 : j < items.size) (h2 : j < items2.size), (∀ k, k < j → e k = true) → e j = false → RcLt A.in1 s items[j] items2[j] (r j)) ∧
        R (.ok (.ret (.bool (firstLt e r (decide (items.size < items2.size)) (List.range (min items.size items2.size)))))) s) :=
  .of_wp fun prog w A R s h => by
    obtain ⟨hp, g, d, tk, os⟩ := s; obtain ⟨hl, hb, he, hr, h⟩ := h
    have f2 := AutoSeq1.sub_tuple_tuple
    have hZ : (items.toList.zip items2.toList).length = min items.size items2.size := by simp
    wp_walk using wpAny_loadPart' hl, wpAny_loadPart' hb, wpAny_forIn_list _ (fun rest b s' => b.1 = none ∧ s' = ⟨hp, g, d, tk, os⟩ ∧ ∃ i, (∀ k, k < i → e k = true) ∧ rest = (items.toList.zip items2.toList).drop i ∧
      R (.ok (.ret (.bool (firstLt e r (decide (items.size < items2.size)) ((List.range (min items.size items2.size)).drop i))))) ⟨hp, g, d, tk, os⟩) _
    case turn =>
      rintro ⟨y, x⟩ rest b s' ⟨hb', rfl, i, hpre, hz, hR⟩
      have hlt : i < (items.toList.zip items2.toList).length := by
        rcases Nat.lt_or_ge i (items.toList.zip items2.toList).length with h' | h'
        · exact h'
        · rw [List.drop_of_length_le h'] at hz; cases hz
      have hm : i < min items.size items2.size := hZ ▸ hlt
      have h1 : i < items.size := Nat.lt_of_lt_of_le hm (Nat.min_le_left _ _)
      have h2 : i < items2.size := Nat.lt_of_lt_of_le hm (Nat.min_le_right _ _)
      rw [List.drop_eq_getElem_cons hlt] at hz
      injection hz with hyx hrest
      have hy : y = items[i] := by have := congrArg Prod.fst hyx; simpa using this
      have hx : x = items2[i] := by have := congrArg Prod.snd hyx; simpa using this
      subst hy hx
      have hd : (List.range (min items.size items2.size)).drop i = i :: (List.range (min items.size items2.size)).drop (i + 1) := by simp [List.drop_eq_getElem_cons, hm]
      rw [hd] at hR
      refine wpAny_bind (he i h1 h2 prog w _ _ ?_)
      cases hy : e i with
      | true =>
        rw [firstLt_yes hy] at hR
        wp_walk
        exact ⟨rfl, rfl, i + 1, fun k hk => by
          rcases Nat.lt_succ_iff_lt_or_eq.mp hk with q | q
          · exact hpre k q
          · rw [q]; exact hy, hrest, hR⟩
      | false =>
        rw [firstLt_no hy] at hR
        generalize hrc : PySem.richCompare .Lt items[i] items2[i] = rc
        wp_walk
        subst hrc
        refine hr i h1 h2 hpre hy prog w _ _ ?_
        wp_walk
        exact ⟨_, rfl, hR⟩
    case fin =>
      rintro ⟨b1, b2⟩ s' ⟨hb', rfl, i, hpre, hz, hR⟩
      simp only at hb'
      subst hb'
      have hge : min items.size items2.size ≤ i := by
        rcases Nat.lt_or_ge i (items.toList.zip items2.toList).length with h' | h'
        · rw [List.drop_eq_getElem_cons h'] at hz; cases hz
        · exact hZ ▸ h'
      rw [List.drop_of_length_le (by simpa using hge)] at hR
      wp_walk
      exact ⟨_, rfl, by simpa [Builtin.Tuple.tupleCompareSizes, firstLt] using hR⟩
    case h =>
      exact ⟨rfl, rfl, 0, fun k hk => absurd hk (Nat.not_lt_zero _), rfl, by simpa using h⟩

theorem lt_loopAt (l b : Addr) (items items2 : Array Value) (n n2 : Nat) (dd dd2 : Option Addr) (sl sl2 : Array (Option Value)) (e r : Nat → Bool) (k : Nat) :
    ∀ i : Nat, (∀ k, k < i → e k = true) → min items.size items2.size - i = k → Meets (Builtin.«list.__eq__.loop» ⟨[.ref l, .ref b, rawInt i, rawInt 0], []⟩)
      (fun A R s => s.heap.get? l = some { cls := .type "list", dict := dd, data := .seq items n, slots := sl } ∧ s.heap.get? b = some { cls := .type "list", dict := dd2, data := .seq items2 n2, slots := sl2 } ∧
        (∀ j (h1 : j < items.size) (h2 : j < items2.size), EqAt A.in1 s items[j] items2[j] (e j)) ∧ (∀ j (h1 : j < items.size) (h2 : j < items2.size), (∀ k, k < j → e k = true) → e j = false → RcLt A.in1 s items[j] items2[j] (r j)) ∧
        R (.ok (.ret (.bool (firstLt e r (decide (items.size < items2.size)) ((List.range (min items.size items2.size)).drop i))))) s) := by
  induction k with
  | zero =>
    intro i hpre hk prog w A R s h
    obtain ⟨hp, g, d, tk, os⟩ := s; obtain ⟨hl, hb, he, hr, h⟩ := h
    have hd : (List.range (min items.size items2.size)).drop i = [] := by simp; omega
    rw [hd] at h
    wp_walk using wpAny_loadPart' hl, wpAny_loadPart' hb
    by_cases h1 : items.size ≤ i
    · have hi1 : items[((i : Nat) : Int).toNat]? = none := by simp; omega
      rw [hi1]
      wp_walk using wpAny_loadPart' hl, wpAny_loadPart' hb
      exact h
    · have hlt : i < items.size := by omega
      have hi1 : items[((i : Nat) : Int).toNat]? = some items[i] := by simp [hlt]
      have hi2 : items2[((i : Nat) : Int).toNat]? = none := by simp; omega
      rw [hi1, hi2]
      wp_walk using wpAny_loadPart' hl, wpAny_loadPart' hb
      exact h
  | succ k ih =>
    intro i hpre hk prog w A R s h
    obtain ⟨hp, g, d, tk, os⟩ := s; obtain ⟨hl, hb, he, hr, h⟩ := h
    wp_walk using wpAny_loadPart' hl, wpAny_loadPart' hb
    have hm : i < min items.size items2.size := by omega
    have hlt : i < items.size := Nat.lt_of_lt_of_le hm (Nat.min_le_left _ _)
    have hlt2 : i < items2.size := Nat.lt_of_lt_of_le hm (Nat.min_le_right _ _)
    have hi1 : items[((i : Nat) : Int).toNat]? = some items[i] := by simp [hlt]
    have hi2 : items2[((i : Nat) : Int).toNat]? = some items2[i] := by simp [hlt2]
    have hd : (List.range (min items.size items2.size)).drop i = i :: (List.range (min items.size items2.size)).drop (i + 1) := by simp [List.drop_eq_getElem_cons, hm]
    have hc : ((i : Int) + 1) = ((i + 1 : Nat) : Int) := by push_cast; rfl
    rw [hd] at h
    rw [hi1, hi2]
    refine wpAny_bind (he i hlt hlt2 prog w _ _ ?_)
    cases hb' : e i with
    | true =>
      rw [firstLt_yes hb'] at h
      wp_walk
      rw [hc]
      exact ⟨plainId_quiet plain_eq_loop _, codeAny_builtin entry_eq_loop (by
        rw [Around.under_plainId plain_eq_loop _]
        exact ih (i + 1) (fun k hk => by
          rcases Nat.lt_succ_iff_lt_or_eq.mp hk with q | q
          · exact hpre k q
          · rw [q]; exact hb') (by omega) prog w A R _ ⟨hl, hb, he, hr, h⟩)⟩
    | false =>
      rw [firstLt_no hb'] at h
      wp_walk using wpAny_loadPart' hl, wpAny_loadPart' hb
      rw [hi1, hi2]
      dsimp only
      generalize hrc : PySem.richCompare .Lt items[i] items2[i] = rc
      wp_walk
      subst hrc
      refine hr i hlt hlt2 hpre hb' prog w _ _ ?_
      wp_walk
      exact h

theorem list_ltAt (l b : Addr) (items items2 : Array Value) (n n2 : Nat) (dd dd2 : Option Addr) (sl sl2 : Array (Option Value)) (e r : Nat → Bool) :
    Meets (Builtin.«list.__lt__» ⟨[.ref l, .ref b], []⟩)
      (fun A R s => s.heap.get? l = some { cls := .type "list", dict := dd, data := .seq items n, slots := sl } ∧ s.heap.get? b = some { cls := .type "list", dict := dd2, data := .seq items2 n2, slots := sl2 } ∧
        (∀ j (h1 : j < items.size) (h2 : j < items2.size), EqAt A.in1 s items[j] items2[j] (e j)) ∧ (∀ j (h1 : j < items.size) (h2 : j < items2.size), (∀ k, k < j → e k = true) → e j = false → RcLt A.in1 s items[j] items2[j] (r j)) ∧
        R (.ok (.ret (.bool (firstLt e r (decide (items.size < items2.size)) (List.range (min items.size items2.size)))))) s) := by
  intro prog w A R s h
  obtain ⟨hp, g, d, tk, os⟩ := s; obtain ⟨hl, hb, he, hr, h⟩ := h
  have f3 := AutoSeq1.sub_list_list
  wp_walk using wpAny_loadPart' hl, wpAny_loadPart' hb
  exact ⟨plainId_quiet plain_eq_loop _, codeAny_builtin entry_eq_loop (by
    rw [Around.under_plainId plain_eq_loop _]
    exact lt_loopAt l b items items2 n n2 dd dd2 sl sl2 e r _ 0 (fun k hk => absurd hk (Nat.not_lt_zero _)) rfl prog w A R _ ⟨hl, hb, he, hr, by simpa using h⟩)⟩

section
variable {A : Around} {s : Shared}
theorem rc_tuples {l b : Addr} {items items2 : Array Value} {e r : Nat → Bool} (hl : s.heap.IsTuple l items) (hb : s.heap.IsTuple b items2) (hu : A.units < cLine)
    (he : ∀ j (h1 : j < items.size) (h2 : j < items2.size), EqAt A.in1 s items[j] items2[j] (e j)) (hr : ∀ j (h1 : j < items.size) (h2 : j < items2.size), (∀ k, k < j → e k = true) → e j = false → RcLt A.in1 s items[j] items2[j] (r j)) :
    RcLt A s (.ref l) (.ref b) (firstLt e r (decide (items.size < items2.size)) (List.range (min items.size items2.size))) := fun prog w E Q h => by
  obtain ⟨⟨cls, dd, data, sl⟩, ho, hc, n, hd⟩ := id hl
  obtain ⟨⟨cls2, dd2, data2, sl2⟩, ho2, hc2, n2, hd2⟩ := id hb
  simp only at hc hd hc2 hd2
  subst hc hd hc2 hd2
  exact richCompare_meets_room (op := .Lt) ⟨_, ho, rfl⟩ ⟨_, ho2, rfl⟩ F.slot_tuple_lt F.entry_tuple_lt (F.args_tuple_lt_2 _ _) (tuple_ltAt l b items items2 n n2 dd dd2 sl sl2 e r)
    ⟨ho, ho2, he, hr, show Value.bool (firstLt e r (decide (items.size < items2.size)) (List.range (min items.size items2.size))) ≠ Value.notImplemented ∧ Q (.bool (firstLt e r (decide (items.size < items2.size)) (List.range (min items.size items2.size)))) s from ⟨(fun x => nomatch x), h⟩⟩ hu

theorem rc_lists {l b : Addr} {items items2 : Array Value} {e r : Nat → Bool} (hl : s.heap.IsList l items) (hb : s.heap.IsList b items2) (hu : A.units < cLine)
    (he : ∀ j (h1 : j < items.size) (h2 : j < items2.size), EqAt A.in1 s items[j] items2[j] (e j)) (hr : ∀ j (h1 : j < items.size) (h2 : j < items2.size), (∀ k, k < j → e k = true) → e j = false → RcLt A.in1 s items[j] items2[j] (r j)) :
    RcLt A s (.ref l) (.ref b) (firstLt e r (decide (items.size < items2.size)) (List.range (min items.size items2.size))) := fun prog w E Q h => by
  obtain ⟨⟨cls, dd, data, sl⟩, ho, hc, n, hd⟩ := id hl
  obtain ⟨⟨cls2, dd2, data2, sl2⟩, ho2, hc2, n2, hd2⟩ := id hb
  simp only at hc hd hc2 hd2
  subst hc hd hc2 hd2
  exact richCompare_meets_room (op := .Lt) ⟨_, ho, rfl⟩ ⟨_, ho2, rfl⟩ F.slot_list_lt F.entry_list_lt (F.args_list_lt_2 _ _) (list_ltAt l b items items2 n n2 dd dd2 sl sl2 e r)
    ⟨ho, ho2, he, hr, show Value.bool (firstLt e r (decide (items.size < items2.size)) (List.range (min items.size items2.size))) ≠ Value.notImplemented ∧ Q (.bool (firstLt e r (decide (items.size < items2.size)) (List.range (min items.size items2.size)))) s from ⟨(fun x => nomatch x), h⟩⟩ hu

/-- the call of list's own __lt__, as sorting makes it -/
theorem call_list_lt {prog : Program} {w : World} {E : Value → Shared → Prop} {Q : Value → Shared → Prop} {l b : Addr} {items items2 : Array Value} {e r : Nat → Bool} (hl : s.heap.IsList l items) (hb : s.heap.IsList b items2)
    (he : ∀ j (h1 : j < items.size) (h2 : j < items2.size), EqAt A.in1 s items[j] items2[j] (e j)) (hr : ∀ j (h1 : j < items.size) (h2 : j < items2.size), (∀ k, k < j → e k = true) → e j = false → RcLt A.in1 s items[j] items2[j] (r j))
    (h : Q (.bool (firstLt e r (decide (items.size < items2.size)) (List.range (min items.size items2.size)))) s) : wpAny (model prog w) A (call (.builtin "list.__lt__") [.ref l, .ref b]) Q E s := by
  obtain ⟨⟨cls, dd, data, sl⟩, ho, hc, n, hd⟩ := id hl
  obtain ⟨⟨cls2, dd2, data2, sl2⟩, ho2, hc2, n2, hd2⟩ := id hb
  simp only at hc hd hc2 hd2
  subst hc hd hc2 hd2
  exact call_meets F.slot_list_lt ⟨_, ho, rfl⟩ F.entry_list_lt (F.args_list_lt_2 _ _) (list_ltAt l b items items2 n n2 dd dd2 sl sl2 e r) ⟨ho, ho2, he, hr, h⟩
end
end TL.Lt
set_option Elab.async false
set_option linter.all false
set_option maxRecDepth 100000
set_option maxHeartbeats 4000000
/-! TL14: the order of trees: Python's <, and a weak order of all trees that it agrees with. -/
namespace TL
open PySem PySem.Spec L2 PyProof.Rows

mutual
/-- < of data, where Python tells it -/
def ltO : T → T → Option Bool
  | .int i, .int j => some (decide (i < j))
  | .str x, .str y => some (decide (x.cps.toList < y.cps.toList))
  | .tup xs, .tup ys => lexO xs ys
  | .lst xs, .lst ys => lexO xs ys
  | _, _ => none
def lexO : List T → List T → Option Bool
  | [], [] => some false
  | [], _ :: _ => some true
  | _ :: _, [] => some false
  | x :: xs, y :: ys => if eqb x y = true then lexO xs ys else ltO x y
end
def tagT : T → Nat
  | .non => 0
  | .bl _ => 1
  | .int _ => 2
  | .str _ => 3
  | .tup _ => 4
  | .lst _ => 5
  | _ => 6
def cmpI (i j : Int) : Ordering := if i < j then .lt else if i = j then .eq else .gt
def cmpS (i j : List Nat) : Ordering := if i < j then .lt else if i = j then .eq else .gt
def cmpN (i j : Nat) : Ordering := if i < j then .lt else if i = j then .eq else .gt
mutual
/-- a weak order of all trees -/
def cmpT : T → T → Ordering
  | .int i, y => (match y with | .int j => cmpI i j | y => cmpN 2 (tagT y))
  | .str x, y => (match y with | .str y => cmpS x.cps.toList y.cps.toList | y => cmpN 3 (tagT y))
  | .tup xs, y => (match y with | .tup ys => cmpL xs ys | y => cmpN 4 (tagT y))
  | .lst xs, y => (match y with | .lst ys => cmpL xs ys | y => cmpN 5 (tagT y))
  | .non, y => cmpN 0 (tagT y)
  | .bl _, y => cmpN 1 (tagT y)
  | .ref _, y => cmpN 6 (tagT y)
  | .ty _, y => cmpN 6 (tagT y)
  | .dct _, y => cmpN 6 (tagT y)
  | .scr _, y => cmpN 6 (tagT y)
def cmpL : List T → List T → Ordering
  | [], [] => .eq
  | [], _ :: _ => .lt
  | _ :: _, [] => .gt
  | x :: xs, y :: ys => (match cmpT x y with | .lt => .lt | .gt => .gt | .eq => cmpL xs ys)
end
def ltB (x y : T) : Bool := cmpT x y == .lt
theorem cmpN_sw (i j : Nat) : cmpN j i = (cmpN i j).swap := by
  unfold cmpN
  rcases Nat.lt_trichotomy i j with h | h | h
  · rw [if_neg (by omega), if_neg (by omega), if_pos h]; rfl
  · subst h; simp
  · rw [if_pos h, if_neg (by omega), if_neg (by omega)]; rfl
theorem cmpI_sw (i j : Int) : cmpI j i = (cmpI i j).swap := by
  unfold cmpI
  rcases Int.lt_trichotomy i j with h | h | h
  · rw [if_neg (by omega), if_neg (by omega), if_pos h]; rfl
  · subst h; simp
  · rw [if_pos h, if_neg (by omega), if_neg (by omega)]; rfl
theorem lt_tri (i j : List Nat) : i < j ∨ i = j ∨ j < i := by
  rcases Decidable.em (i < j) with h | h
  · exact .inl h
  · rcases Decidable.em (j < i) with q | q
    · exact .inr (.inr q)
    · exact .inr (.inl (List.le_antisymm (show i ≤ j from q) (show j ≤ i from h)))
theorem cmpS_sw (i j : List Nat) : cmpS j i = (cmpS i j).swap := by
  unfold cmpS
  rcases lt_tri i j with h | h | h
  · rw [if_neg (List.lt_asymm h), if_neg (fun z => by subst z; exact List.lt_irrefl _ h), if_pos h]; rfl
  · subst h; rw [if_neg (List.lt_irrefl _), if_pos rfl]; rfl
  · rw [if_pos h, if_neg (List.lt_asymm h), if_neg (fun z => by subst z; exact List.lt_irrefl _ h)]; rfl
mutual
theorem cmp_sw : ∀ x y : T, cmpT y x = (cmpT x y).swap
  | .int i, y => by cases y <;> first | exact cmpI_sw _ _ | exact cmpN_sw _ _
  | .str i, y => by cases y <;> first | exact cmpS_sw _ _ | exact cmpN_sw _ _
  | .tup xs, y => by
    cases y with
    | tup ys => simp only [cmpT]; exact cmpL_sw xs ys
    | _ => exact cmpN_sw _ _
  | .lst xs, y => by
    cases y with
    | lst ys => simp only [cmpT]; exact cmpL_sw xs ys
    | _ => exact cmpN_sw _ _
  | .non, y => by cases y <;> exact cmpN_sw _ _
  | .bl _, y => by cases y <;> exact cmpN_sw _ _
  | .ref _, y => by cases y <;> exact cmpN_sw _ _
  | .ty _, y => by cases y <;> exact cmpN_sw _ _
  | .dct _, y => by cases y <;> exact cmpN_sw _ _
  | .scr _, y => by cases y <;> exact cmpN_sw _ _
theorem cmpL_sw : ∀ x y : List T, cmpL y x = (cmpL x y).swap
  | [], [] => by simp [cmpL]
  | [], _ :: _ => by simp [cmpL]
  | _ :: _, [] => by simp [cmpL]
  | x :: xs, y :: ys => by
    simp only [cmpL, cmp_sw x y]
    cases cmpT x y <;> simp [cmpL_sw xs ys]
end
/-- the two laws of a weak order -/
def WO {α : Type} (c : α → α → Ordering) (x y z : α) : Prop := (c x y = .eq → c x z = c y z) ∧ (c x y = .lt → c y z ≠ .gt → c x z = .lt)
theorem wo_N (x y z : Nat) : WO cmpN x y z := by
  unfold WO cmpN
  constructor
  · intro h
    have : x = y := by
      by_cases a : x < y
      · rw [if_pos a] at h; cases h
      · rw [if_neg a] at h
        by_cases b : x = y
        · exact b
        · rw [if_neg b] at h; cases h
    rw [this]
  · intro h1 h2
    have a : x < y := by
      by_cases a : x < y
      · exact a
      · rw [if_neg a] at h1; split at h1 <;> cases h1
    have b : y ≤ z := by
      by_cases b : y < z
      · omega
      · rw [if_neg b] at h2
        by_cases c : y = z
        · omega
        · rw [if_neg c] at h2; exact absurd rfl h2
    rw [if_pos (by omega)]
theorem wo_I (x y z : Int) : WO cmpI x y z := by
  unfold WO cmpI
  constructor
  · intro h
    have : x = y := by
      by_cases a : x < y
      · rw [if_pos a] at h; cases h
      · rw [if_neg a] at h
        by_cases b : x = y
        · exact b
        · rw [if_neg b] at h; cases h
    rw [this]
  · intro h1 h2
    have a : x < y := by
      by_cases a : x < y
      · exact a
      · rw [if_neg a] at h1; split at h1 <;> cases h1
    have b : y ≤ z := by
      by_cases b : y < z
      · omega
      · rw [if_neg b] at h2
        by_cases c : y = z
        · omega
        · rw [if_neg c] at h2; exact absurd rfl h2
    rw [if_pos (by omega)]
theorem wo_S (x y z : List Nat) : WO cmpS x y z := by
  unfold WO cmpS
  constructor
  · intro h
    have : x = y := by
      by_cases a : x < y
      · rw [if_pos a] at h; cases h
      · rw [if_neg a] at h
        by_cases b : x = y
        · exact b
        · rw [if_neg b] at h; cases h
    rw [this]
  · intro h1 h2
    have a : x < y := by
      by_cases a : x < y
      · exact a
      · rw [if_neg a] at h1; split at h1 <;> cases h1
    by_cases b : y < z
    · rw [if_pos (List.lt_trans a b)]
    · rw [if_neg b] at h2
      by_cases c : y = z
      · subst c; rw [if_pos a]
      · rw [if_neg c] at h2; exact absurd rfl h2
/-- unlike tags decide -/
theorem cmp_tag {x y : T} (h : tagT x ≠ tagT y) : cmpT x y = cmpN (tagT x) (tagT y) := by
  cases x <;> cases y <;> first | (exact absurd rfl h) | rfl
theorem cmpN_self (n : Nat) : cmpN n n = .eq := by simp [cmpN]
theorem cmpN_eq {m n : Nat} (h : cmpN m n = .eq) : m = n := by
  unfold cmpN at h
  split at h
  · cases h
  · split at h
    · assumption
    · cases h
theorem cmpN_lt {m n : Nat} (h : cmpN m n = .lt) : m < n := by
  unfold cmpN at h
  split at h
  · assumption
  · split at h <;> cases h
theorem cmpN_ngt {m n : Nat} (h : cmpN m n ≠ .gt) : m ≤ n := by
  unfold cmpN at h
  split at h
  · omega
  · split at h
    · omega
    · exact absurd rfl h
theorem lt_cmpN {m n : Nat} (h : m < n) : cmpN m n = .lt := by unfold cmpN; rw [if_pos h]
theorem cmp_eq_tag {x y : T} (h : cmpT x y = .eq) : tagT x = tagT y := by
  by_cases e : tagT x = tagT y
  · exact e
  · rw [cmp_tag e] at h; exact cmpN_eq h
theorem cmp_lt_tag {x y : T} (h : cmpT x y = .lt) : tagT x ≤ tagT y := by
  by_cases e : tagT x = tagT y
  · omega
  · rw [cmp_tag e] at h; have := cmpN_lt h; omega
theorem cmp_ngt_tag {x y : T} (h : cmpT x y ≠ .gt) : tagT x ≤ tagT y := by
  by_cases e : tagT x = tagT y
  · omega
  · rw [cmp_tag e] at h; exact cmpN_ngt h
theorem wo_tags {x y z : T} (h : tagT x = tagT y → tagT y = tagT z → WO cmpT x y z) : WO cmpT x y z := by
  constructor
  · intro h1
    have e := cmp_eq_tag h1
    by_cases e2 : tagT y = tagT z
    · exact (h e e2).1 h1
    · rw [cmp_tag e2, cmp_tag (by rw [e]; exact e2), e]
  · intro h1 h2
    have a := cmp_lt_tag h1
    have b := cmp_ngt_tag h2
    by_cases e : tagT x = tagT y
    · by_cases e2 : tagT y = tagT z
      · exact (h e e2).2 h1 h2
      · rw [cmp_tag (by omega)]; exact lt_cmpN (by omega)
    · rw [cmp_tag (by omega)]; exact lt_cmpN (by omega)
mutual
theorem wo_T : ∀ x y z : T, WO cmpT x y z
  | .int i, y, z => wo_tags fun e1 e2 => by
    cases y <;> simp [tagT] at e1
    cases z <;> simp [tagT] at e2
    exact wo_I _ _ _
  | .str i, y, z => wo_tags fun e1 e2 => by
    cases y <;> simp [tagT] at e1
    cases z <;> simp [tagT] at e2
    exact wo_S _ _ _
  | .tup xs, y, z => wo_tags fun e1 e2 => by
    cases y <;> simp [tagT] at e1
    cases z <;> simp [tagT] at e2
    have q := wo_L xs
    unfold WO at q ⊢
    simp only [cmpT]
    exact q _ _
  | .lst xs, y, z => wo_tags fun e1 e2 => by
    cases y <;> simp [tagT] at e1
    cases z <;> simp [tagT] at e2
    have q := wo_L xs
    unfold WO at q ⊢
    simp only [cmpT]
    exact q _ _
  | .non, y, z => wo_tags fun e1 e2 => by
    cases y <;> simp [tagT] at e1
    cases z <;> simp [tagT] at e2
    exact wo_N 0 0 0
  | .bl _, y, z => wo_tags fun e1 e2 => by
    cases y <;> simp [tagT] at e1
    cases z <;> simp [tagT] at e2
    exact wo_N 1 1 1
  | .ref _, y, z => wo_tags fun e1 e2 => by
    cases y <;> simp [tagT] at e1 <;> cases z <;> simp [tagT] at e2 <;> exact wo_N 6 6 6
  | .ty _, y, z => wo_tags fun e1 e2 => by
    cases y <;> simp [tagT] at e1 <;> cases z <;> simp [tagT] at e2 <;> exact wo_N 6 6 6
  | .dct _, y, z => wo_tags fun e1 e2 => by
    cases y <;> simp [tagT] at e1 <;> cases z <;> simp [tagT] at e2 <;> exact wo_N 6 6 6
  | .scr _, y, z => wo_tags fun e1 e2 => by
    cases y <;> simp [tagT] at e1 <;> cases z <;> simp [tagT] at e2 <;> exact wo_N 6 6 6
theorem wo_L : ∀ x y z : List T, WO cmpL x y z
  | [], [], z => ⟨fun _ => rfl, fun h => by simp [cmpL] at h⟩
  | [], _ :: _, [] => ⟨fun h => by simp [cmpL] at h, fun _ h => by simp [cmpL] at h⟩
  | [], _ :: _, _ :: _ => ⟨fun h => by simp [cmpL] at h, fun _ _ => by simp [cmpL]⟩
  | _ :: _, [], z => ⟨fun h => by simp [cmpL] at h, fun h => by simp [cmpL] at h⟩
  | x :: xs, y :: ys, [] => ⟨fun h => by simp [cmpL], fun _ h => by simp [cmpL] at h⟩
  | x :: xs, y :: ys, z :: zs => by
    obtain ⟨a1, a2⟩ := wo_T x y z
    obtain ⟨b1, b2⟩ := wo_L xs ys zs
    unfold WO
    simp only [cmpL]
    cases h : cmpT x y with
    | gt => exact ⟨fun q => by simp at q, fun q => by simp at q⟩
    | eq =>
      rw [a1 h]
      cases cmpT y z with
      | lt => simp
      | gt => simp
      | eq => exact ⟨b1, b2⟩
    | lt =>
      refine ⟨fun q => by simp at q, fun _ q => ?_⟩
      have : cmpT x z = .lt := a2 h (by intro z; rw [z] at q; exact absurd rfl q)
      rw [this]
end
theorem ltB_iff {x y : T} : ltB x y = true ↔ cmpT x y = .lt := by unfold ltB; simp
theorem ltB_no {x y : T} : ltB x y = false ↔ cmpT x y ≠ .lt := by unfold ltB; simp
theorem ltB_asym (x y : T) (h : ltB x y = true) : ltB y x = false := by
  rw [ltB_iff] at h
  rw [ltB_no, cmp_sw x y, h]; decide
theorem ltB_tr (x y z : T) (h1 : ltB y x = false) (h2 : ltB z y = false) : ltB z x = false := by
  rw [ltB_no] at *
  rw [cmp_sw x y] at h1
  rw [cmp_sw y z] at h2
  rw [cmp_sw x z]
  obtain ⟨a, b⟩ := wo_T x y z
  intro q
  have gz : cmpT x z = .gt := by cases e : cmpT x z <;> rw [e] at q <;> first | rfl | simp at q
  have ny : cmpT y z ≠ .gt := by intro e; rw [e] at h2; exact h2 rfl
  cases e : cmpT x y with
  | gt => rw [e] at h1; exact h1 rfl
  | eq => rw [a e] at gz; exact ny gz
  | lt => rw [b e ny] at gz; cases gz
theorem swoB : SrtO.Swo ltB := ⟨ltB_asym, ltB_tr⟩
theorem cmp_self (x : T) : cmpT x x = .eq := by
  have h := cmp_sw x x
  cases e : cmpT x x with
  | eq => rfl
  | lt => rw [e] at h; simp at h
  | gt => rw [e] at h; simp at h
theorem eqb_cmp {x y : T} (hx : nb x = true) (hy : nb y = true) (h : eqb x y = true) : cmpT x y = .eq := by
  rw [eqb_nb x y hx hy] at h
  have e : x = y := by simpa using h
  subst e
  exact cmp_self x
def ordB (c : Bool) : Ordering := if c = true then .lt else .gt
mutual
theorem ltO_B : ∀ (x y : T) (c : Bool), nb x = true → nb y = true → ltO x y = some c → (eqb x y = true ∧ c = false ∧ cmpT x y = .eq) ∨ (eqb x y = false ∧ cmpT x y = ordB c)
  | .int i, y, c, hx, hy, h => by
    cases y with
    | int j =>
      simp only [ltO, Option.some.injEq] at h; subst h
      simp only [eqb, cmpT, cmpI]
      rcases Int.lt_trichotomy i j with q | q | q
      · refine .inr ⟨by simp; omega, ?_⟩
        simp [q, ordB]
      · subst q
        exact .inl ⟨by simp, by simp, by simp⟩
      · refine .inr ⟨by simp; omega, ?_⟩
        rw [if_neg (by omega), if_neg (by omega), decide_eq_false (by omega)]; rfl
    | _ => simp [ltO] at h
  | .str i, y, c, hx, hy, h => by
    cases y with
    | str j =>
      simp only [ltO, Option.some.injEq] at h; subst h
      simp only [eqb, cmpT, cmpS]
      rcases lt_tri i.cps.toList j.cps.toList with q | q | q
      · refine .inr ⟨?_, by simp [q, ordB]⟩
        rw [beq_eq_false_iff_ne]
        intro e; subst e; exact List.lt_irrefl _ q
      · have e : i = j := by
          cases i with
          | mk a => cases j with
            | mk b => congr 1; exact Array.toList_inj.mp q
        subst e
        exact .inl ⟨by simp, decide_eq_false (List.lt_irrefl _), by rw [if_neg (List.lt_irrefl _), if_pos rfl]⟩
      · refine .inr ⟨?_, ?_⟩
        · rw [beq_eq_false_iff_ne]
          intro e; subst e; exact List.lt_irrefl _ q
        · rw [if_neg (List.lt_asymm q), if_neg (fun z => by rw [z] at q; exact List.lt_irrefl _ q), decide_eq_false (List.lt_asymm q)]; rfl
    | _ => simp [ltO] at h
  | .tup xs, y, c, hx, hy, h => by
    cases y with
    | tup ys =>
      simp only [ltO] at h
      simp only [cmpT, eqb]
      exact lexO_B xs ys c (by simpa [nb] using hx) (by simpa [nb] using hy) h
    | _ => simp [ltO] at h
  | .lst xs, y, c, hx, hy, h => by
    cases y with
    | lst ys =>
      simp only [ltO] at h
      simp only [cmpT, eqb]
      exact lexO_B xs ys c (by simpa [nb] using hx) (by simpa [nb] using hy) h
    | _ => simp [ltO] at h
  | .non, y, c, _, _, h => by cases y <;> simp [ltO] at h
  | .bl _, y, c, _, _, h => by cases y <;> simp [ltO] at h
  | .ref _, y, c, _, _, h => by cases y <;> simp [ltO] at h
  | .ty _, y, c, _, _, h => by cases y <;> simp [ltO] at h
  | .dct _, y, c, _, _, h => by cases y <;> simp [ltO] at h
  | .scr _, y, c, _, _, h => by cases y <;> simp [ltO] at h
theorem lexO_B : ∀ (x y : List T) (c : Bool), nbs x = true → nbs y = true → lexO x y = some c → (eqbs x y = true ∧ c = false ∧ cmpL x y = .eq) ∨ (eqbs x y = false ∧ cmpL x y = ordB c)
  | [], [], c, _, _, h => by
    simp only [lexO, Option.some.injEq] at h; subst h
    exact .inl ⟨rfl, rfl, rfl⟩
  | [], _ :: _, c, _, _, h => by
    simp only [lexO, Option.some.injEq] at h; subst h
    exact .inr ⟨rfl, rfl⟩
  | _ :: _, [], c, _, _, h => by
    simp only [lexO, Option.some.injEq] at h; subst h
    exact .inr ⟨rfl, rfl⟩
  | x :: xs, y :: ys, c, hx, hy, h => by
    have h1 : nb x = true ∧ nbs xs = true := by simpa [nbs] using hx
    have h2 : nb y = true ∧ nbs ys = true := by simpa [nbs] using hy
    simp only [lexO] at h
    simp only [eqbs, cmpL]
    cases e : eqb x y with
    | true =>
      rw [if_pos e] at h
      rw [eqb_cmp h1.1 h2.1 e]
      simpa using lexO_B xs ys c h1.2 h2.2 h
    | false =>
      rw [if_neg (by rw [e]; exact Bool.false_ne_true)] at h
      rcases ltO_B x y c h1.1 h2.1 h with ⟨q, _⟩ | ⟨_, q⟩
      · rw [e] at q; cases q
      · refine .inr ⟨rfl, ?_⟩
        rw [q]
        cases c <;> rfl
end
theorem ltO_ltB {x y : T} {c : Bool} (hx : nb x = true) (hy : nb y = true) (h : ltO x y = some c) : ltB x y = c := by
  rcases ltO_B x y c hx hy h with ⟨_, rfl, q⟩ | ⟨_, q⟩
  · unfold ltB; rw [q]; rfl
  · unfold ltB; rw [q]; cases c <;> rfl

theorem isDs_mem : ∀ {n : Nat} {ts : List T}, isDs n ts = true → ∀ {t : T}, t ∈ ts → isDn n t = true
  | n, t :: ts, h, u, hu => by
    have h' : isDn n t = true ∧ isDs n ts = true := by simpa [isDs] using h
    rcases List.mem_cons.mp hu with e | e
    · rw [e]; exact h'.1
    · exact isDs_mem h'.2 e
  | _, [], _, _, hu => by cases hu
/-! ### < asked of values -/
open SeqAt in
mutual
theorem rc_lt {X : Cx} {pins : List (Addr × Obj)} {σ : L2.St} {H : Hp} {s : Shared} {g : G} (I : Inv X pins σ H s) : ∀ (n m : Nat) (x y : T) (v w : V) (vu wu : Value) (A : Around) (c : Bool), TV X.prog X.w X.K g H x v → TV X.prog X.w X.K g H y w → L2.RelV v vu → L2.RelV w wu →
    isDn n x = true → isDn m y = true → ltO x y = some c → A.units + n + m + 2 < cLine → RcLt A s vu wu c
  | n, m, .int i, y, v, w, vu, wu, A, c, r1, r2, u1, u2, h1, h2, h, hu => by
    cases y with
    | int j =>
      simp only [ltO, Option.some.injEq] at h; subst h
      cases r1; cases r2
      obtain ⟨t, rfl⟩ := u1
      obtain ⟨t', rfl⟩ := u2
      intro prog w E Q hq
      exact PyProof.Rows.lt_int hq
    | _ => simp [ltO] at h
  | n, m, .str i, y, v, w, vu, wu, A, c, r1, r2, u1, u2, h1, h2, h, hu => by
    cases y with
    | str j =>
      simp only [ltO, Option.some.injEq] at h; subst h
      cases r1; cases r2
      obtain ⟨t, rfl⟩ := u1
      obtain ⟨t', rfl⟩ := u2
      intro prog w E Q hq
      exact PyProof.Rows.lt_str hq
    | _ => simp [ltO] at h
  | 0, m, .tup xs, _, _, _, _, _, _, _, _, _, _, _, h1, _, _, _ => by simp [isDn] at h1
  | 0, m, .lst xs, _, _, _, _, _, _, _, _, _, _, _, h1, _, _, _ => by simp [isDn] at h1
  | n + 1, m, .tup xs, y, v, w, vu, wu, A, c, r1, r2, u1, u2, h1, h2, h, hu => by
    cases y with
    | tup ys =>
      obtain ⟨m, rfl⟩ : ∃ k, m = k + 1 := by cases m with | zero => simp [isDn] at h2 | succ k => exact ⟨k, rfl⟩
      simp only [ltO] at h
      cases r1 with
      | tup a1 a2 a3 =>
        cases r2 with
        | tup b1 b2 b3 =>
          cases u1; cases u2
          obtain ⟨its, w1, p1, _⟩ := I.tuple (.inl a2)
          obtain ⟨its2, w2, p2, _⟩ := I.tuple (.inl b2)
          have q := rc_lex I n m xs ys _ _ its its2 A.in1 c a3 b3 w1 w2 (by simpa [isDn] using h1) (by simpa [isDn] using h2) h (by show A.units + 1 + n + m + 2 < cLine; omega) 0
          obtain ⟨e, r, e1, e2, e3⟩ := q
          rw [← e3]
          have l1 : its.toArray.size = its.length := by simp
          have l2 : its2.toArray.size = its2.length := by simp
          rw [← l1, ← l2, ← List.range_eq_range']
          refine Lt.rc_tuples (A := A) p1 p2 (by omega) (fun j j1 j2 => by simpa using e1 j (by simpa using j1) (by simpa using j2)) fun j j1 j2 hp hj => by simpa using e2 j (by simpa using j1) (by simpa using j2) (fun k hk => by rw [Nat.zero_add]; exact hp k hk) (by rw [Nat.zero_add]; exact hj)
    | _ => simp [ltO] at h
  | n + 1, m, .lst xs, y, v, w, vu, wu, A, c, r1, r2, u1, u2, h1, h2, h, hu => by
    cases y with
    | lst ys =>
      obtain ⟨m, rfl⟩ : ∃ k, m = k + 1 := by cases m with | zero => simp [isDn] at h2 | succ k => exact ⟨k, rfl⟩
      simp only [ltO] at h
      cases r1 with
      | lst a1 a2 a3 =>
        cases r2 with
        | lst b1 b2 b3 =>
          cases u1; cases u2
          obtain ⟨its, w1, p1, _⟩ := I.list (.inl a2)
          obtain ⟨its2, w2, p2, _⟩ := I.list (.inl b2)
          have q := rc_lex I n m xs ys _ _ its its2 A.in1 c a3 b3 w1 w2 (by simpa [isDn] using h1) (by simpa [isDn] using h2) h (by show A.units + 1 + n + m + 2 < cLine; omega) 0
          obtain ⟨e, r, e1, e2, e3⟩ := q
          rw [← e3]
          have l1 : its.toArray.size = its.length := by simp
          have l2 : its2.toArray.size = its2.length := by simp
          rw [← l1, ← l2, ← List.range_eq_range']
          refine Lt.rc_lists (A := A) p1.isList p2.isList (by omega) (fun j j1 j2 => by simpa using e1 j (by simpa using j1) (by simpa using j2)) fun j j1 j2 hp hj => by simpa using e2 j (by simpa using j1) (by simpa using j2) (fun k hk => by rw [Nat.zero_add]; exact hp k hk) (by rw [Nat.zero_add]; exact hj)
    | _ => simp [ltO] at h
  | n, m, .non, y, _, _, _, _, _, _, _, _, _, _, _, _, h, _ => by cases y <;> simp [ltO] at h
  | n, m, .bl _, y, _, _, _, _, _, _, _, _, _, _, _, _, h, _ => by cases y <;> simp [ltO] at h
  | n, m, .ref _, y, _, _, _, _, _, _, _, _, _, _, _, _, h, _ => by cases y <;> simp [ltO] at h
  | n, m, .ty _, y, _, _, _, _, _, _, _, _, _, _, _, _, h, _ => by cases y <;> simp [ltO] at h
  | n, m, .dct _, y, _, _, _, _, _, _, _, _, _, _, _, _, h, _ => by cases y <;> simp [ltO] at h
  | n, m, .scr _, y, _, _, _, _, _, _, _, _, _, _, _, _, h, _ => by cases y <;> simp [ltO] at h
theorem rc_lex {X : Cx} {pins : List (Addr × Obj)} {σ : L2.St} {H : Hp} {s : Shared} {g : G} (I : Inv X pins σ H s) : ∀ (n m : Nat) (xs ys : List T) (vs ws : List V) (us us2 : List Value) (A : Around) (c : Bool), TVs X.prog X.w X.K g H xs vs → TVs X.prog X.w X.K g H ys ws → Vals vs us → Vals ws us2 →
    isDs n xs = true → isDs m ys = true → lexO xs ys = some c → A.units + n + m + 2 < cLine → ∀ o : Nat,
    ∃ e r : Nat → Bool, (∀ j (h1 : j < us.length) (h2 : j < us2.length), SeqAt.EqAt A s us[j] us2[j] (e (o + j))) ∧ (∀ j (h1 : j < us.length) (h2 : j < us2.length), (∀ k, k < j → e (o + k) = true) → e (o + j) = false → RcLt A s us[j] us2[j] (r (o + j))) ∧
      SeqAt.firstLt e r (decide (us.length < us2.length)) ((List.range' o (min us.length us2.length))) = c
  | n, m, [], ys, _, _, us, us2, A, c, r1, r2, u1, u2, h1, h2, h, hu, o => by
    cases r1; cases u1
    refine ⟨fun _ => true, fun _ => true, fun j h => absurd h (Nat.not_lt_zero _), fun j h => absurd h (Nat.not_lt_zero _), ?_⟩
    cases r2 with
    | nil => cases u2; simp only [lexO, Option.some.injEq] at h; subst h; simp [SeqAt.firstLt]
    | cons _ _ => cases u2; simp only [lexO, Option.some.injEq] at h; subst h; simp [SeqAt.firstLt]
  | n, m, x :: xs, [], _, _, us, us2, A, c, r1, r2, u1, u2, h1, h2, h, hu, o => by
    cases r2; cases u2
    refine ⟨fun _ => true, fun _ => true, fun j _ h => absurd h (Nat.not_lt_zero _), fun j _ h => absurd h (Nat.not_lt_zero _), ?_⟩
    cases r1; cases u1; simp only [lexO, Option.some.injEq] at h; subst h; simp [SeqAt.firstLt]
  | n, m, x :: xs, y :: ys, _, _, us, us2, A, c, r1, r2, u1, u2, h1, h2, h, hu, o => by
    have d1 : isDn n x = true ∧ isDs n xs = true := by simpa [isDs] using h1
    have d2 : isDn m y = true ∧ isDs m ys = true := by simpa [isDs] using h2
    cases r1 with
    | cons r1 rs1 =>
      cases r2 with
      | cons r2 rs2 =>
        cases u1 with
        | @cons _ vu _ vus u1 us1 =>
          cases u2 with
          | @cons _ wu _ wus u2 uss2 =>
            have E0 : SeqAt.EqAt A s vu wu (eqb x y) := by
              obtain ⟨as, ra⟩ := Dp.reads I _ _ _ (TV.dp X.K n x _ r1 d1.1) u1
              obtain ⟨bs, rb⟩ := Dp.reads I _ _ _ (TV.dp X.K m y _ r2 d2.1) u2
              have q1 := isDn_lay n x d1.1
              have q2 := isDn_lay m y d2.1
              have q := SeqAt.eqAt_reads (pd x) (pd y) A s vu wu as bs ra rb q1.1 q2.1 (by omega)
              rw [eqv_pd n m x y d1.1 d2.1] at q
              exact q
            have EqAll : ∀ j (h1 : j < vus.length) (h2 : j < wus.length), SeqAt.EqAt A s vus[j] wus[j] (eqb (xs.getD j .non) (ys.getD j .non)) := fun j j1 j2 => by
              have l1 := rs1.len
              have l2 := rs2.len
              have l3 := us1.length
              have l4 := uss2.length
              obtain ⟨v1, e1, t1⟩ := rs1.get (i := j) (List.getElem?_eq_getElem (by omega))
              obtain ⟨w1, e2, t2⟩ := rs2.get (i := j) (List.getElem?_eq_getElem (by omega))
              obtain ⟨p1, e3, t3⟩ := L2.Vals.get us1 e1
              obtain ⟨p2, e4, t4⟩ := L2.Vals.get uss2 e2
              have g1 : isDn n (xs[j]'(by omega)) = true := isDs_mem d1.2 (List.getElem_mem _)
              have g2 : isDn m (ys[j]'(by omega)) = true := isDs_mem d2.2 (List.getElem_mem _)
              obtain ⟨as, ra⟩ := Dp.reads I _ _ _ (TV.dp X.K n _ _ t1 g1) t3
              obtain ⟨bs, rb⟩ := Dp.reads I _ _ _ (TV.dp X.K m _ _ t2 g2) t4
              have q1 := isDn_lay n _ g1
              have q2 := isDn_lay m _ g2
              have q := SeqAt.eqAt_reads _ _ A s _ _ as bs ra rb q1.1 q2.1 (by omega)
              rw [eqv_pd n m _ _ g1 g2] at q
              have z1 : vus[j] = p1 := by
                have : vus[j]? = some vus[j] := List.getElem?_eq_getElem j1
                rw [e3] at this; cases this; rfl
              have z2 : wus[j] = p2 := by
                have : wus[j]? = some wus[j] := List.getElem?_eq_getElem j2
                rw [e4] at this; cases this; rfl
              rw [z1, z2]
              have z3 : xs.getD j .non = xs[j]'(by omega) := by simp [List.getD, List.getElem?_eq_getElem (show j < xs.length by omega)]
              have z4 : ys.getD j .non = ys[j]'(by omega) := by simp [List.getD, List.getElem?_eq_getElem (show j < ys.length by omega)]
              rw [z3, z4]
              exact q
            simp only [lexO] at h
            cases e : eqb x y with
            | true =>
              rw [if_pos e] at h
              obtain ⟨f, r, f1, f2, f3⟩ := rc_lex I n m xs ys _ _ vus wus A c rs1 rs2 us1 uss2 d1.2 d2.2 h hu (o + 1)
              refine ⟨fun k => if k = o then true else f k, r, fun j j1 j2 => ?_, fun j j1 j2 hp hj => ?_, ?_⟩
              · cases j with
                | zero => simp only [Nat.add_zero, if_true]; rw [← e]; exact E0
                | succ j =>
                  have q := f1 j (Nat.lt_of_succ_lt_succ j1) (Nat.lt_of_succ_lt_succ j2)
                  have z : ¬ (o + (j + 1) = o) := by omega
                  simp only [z, if_false]
                  have z2 : o + (j + 1) = o + 1 + j := by omega
                  rw [z2]
                  exact q
              · cases j with
                | zero => simp at hj
                | succ j =>
                  have z : ¬ (o + (j + 1) = o) := by omega
                  simp only [z, if_false] at hj
                  have z2 : o + (j + 1) = o + 1 + j := by omega
                  rw [z2] at hj ⊢
                  refine f2 j (Nat.lt_of_succ_lt_succ j1) (Nat.lt_of_succ_lt_succ j2) (fun k hk => ?_) hj
                  have q := hp (k + 1) (Nat.succ_lt_succ hk)
                  have z : ¬ (o + (k + 1) = o) := by omega
                  simp only [z, if_false] at q
                  have z3 : o + (k + 1) = o + 1 + k := by omega
                  rw [z3] at q
                  exact q
              · have hm : min (vu :: vus).length (wu :: wus).length = min vus.length wus.length + 1 := by simp only [List.length_cons]; omega
                rw [hm, List.range'_succ, SeqAt.firstLt_yes (by simp)]
                have hd : decide ((vu :: vus).length < (wu :: wus).length) = decide (vus.length < wus.length) := by simp
                rw [hd]
                have : ∀ (k a : Nat), o < a → SeqAt.firstLt (fun k => if k = o then true else f k) r (decide (vus.length < wus.length)) (List.range' a k) = SeqAt.firstLt f r (decide (vus.length < wus.length)) (List.range' a k) := by
                  intro k
                  induction k with
                  | zero => intro a _; simp [SeqAt.firstLt]
                  | succ k ih =>
                    intro a ha
                    rw [List.range'_succ]
                    simp only [SeqAt.firstLt, ih (a + 1) (by omega)]
                    have z : ¬ a = o := by omega
                    simp only [z, if_false]
                rw [this _ _ (Nat.lt_succ_self _)]
                exact f3
            | false =>
              rw [if_neg (by rw [e]; exact Bool.false_ne_true)] at h
              have L0 := rc_lt I n m x y _ _ vu wu A c r1 r2 u1 u2 d1.1 d2.1 h hu
              refine ⟨fun k => if k = o then false else eqb (xs.getD (k - o - 1) .non) (ys.getD (k - o - 1) .non), fun _ => c, fun j j1 j2 => ?_, fun j j1 j2 hp hj => ?_, ?_⟩
              · cases j with
                | zero => simp only [Nat.add_zero, if_true]; rw [← e]; exact E0
                | succ j =>
                  have z : ¬ (o + (j + 1) = o) := by omega
                  simp only [z, if_false]
                  have z2 : o + (j + 1) - o - 1 = j := by omega
                  rw [z2]
                  exact EqAll j (Nat.lt_of_succ_lt_succ j1) (Nat.lt_of_succ_lt_succ j2)
              · cases j with
                | zero => exact L0
                | succ j =>
                  have q := hp 0 (Nat.succ_pos _)
                  simp at q
              · have hm : min (vu :: vus).length (wu :: wus).length = min vus.length wus.length + 1 := by simp only [List.length_cons]; omega
                rw [hm, List.range'_succ, SeqAt.firstLt_no (by simp)]
end
end TL
set_option Elab.async false
set_option linter.all false
set_option maxRecDepth 100000
set_option maxHeartbeats 4000000
/-! TL15: sorted(x, key=f), f a def whose promise keeps the view. -/
namespace TL
open PySem PySem.Spec L2 PyProof.Rows PySem.W SrtO

section
variable {X : Cx} {pins : List (Addr × Obj)} {σ : L2.St} {H : Hp} {s : Shared}
/-- an object that is nobody's is known from now on -/
theorem track {t' : Nat} {ch : List Addr} {T : Addr} {ob : HO} {h' : Heap} (I : Inv X pins σ H s) (k : ∀ b o, b ∉ ch → s.heap.get? b = some o → h'.get? b = some o) (hf : ∀ b ∈ ch, FpOk X pins H b) (hT : T ∈ ch)
    (new : ObjOk X.prog X.w (upd H T ob) h' T ob) : Inv X pins σ (upd H T ob) { s with heap := h', toks := t' } := by
  have hn : H T = none := (hf T hT).1
  have nit : ∀ b u, H b = some u → b ∉ ch := fun b u e z => by
    have q := (hf b z).1
    rw [q] at e; cases e
  refine I.step (g' := s.gens) (d' := s.drawn) (ch := ch) (fun b hb => ⟨(hf b hb).2.2.2.1, (hf b hb).2.1, (hf b hb).2.2.2.2.1, (hf b hb).2.2.2.2.2⟩) (fun b o _ _ hc e _ => k b o hc e) (fun b o _ _ hc e _ => ⟨o.slots, k b o hc e⟩)
    (fun b o hc e n => ?_) (fun b o hc e => ⟨o, k b o hc e⟩) (fun b xs e => ?_) (fun b o u e => ?_) (fun b ps e => ⟨#[], ?_⟩) (fun m hm => ?_) (fun b u e => ?_) I.bare
  · rw [upd_ne (fun z => by subst z; exact hc hT)]; exact n
  · rw [upd_ne (ne_of_none e hn)]; exact e
  · rw [upd_ne (ne_of_none e hn)]; exact e
  · rw [upd_ne (ne_of_none e hn), e]; simp
  · obtain ⟨o, es, ep, ho, r⟩ := hm
    exact ⟨o, es, ep, k _ o (fun z => (hf _ z).2.1 rfl) ho, r⟩
  · by_cases hb : b = T
    · subst hb
      rw [upd_same] at e
      cases e
      exact new
    · rw [upd_ne hb] at e
      refine (I.hok b u e).stay (fun c v hc q => k c v ?_ q) (fun c q => by rw [upd_ne (ne_of_none q hn)]; exact q) fun c xs q => by rw [upd_ne (ne_of_none q hn)]; exact q
      rcases hc with z | z
      · rw [z]; exact nit b u e
      · exact nit c _ z
theorem FpOk.less {p1 p2 : List (Addr × Obj)} {b : Addr} (h : FpOk X p1 H b) (hp : ∀ p ∈ p2, p ∈ p1) : FpOk X p2 H b :=
  ⟨h.1, h.2.1, h.2.2.1, h.2.2.2.1, h.2.2.2.2.1, fun p hp' => h.2.2.2.2.2 p ((List.mem_append.mp hp').elim (fun z => List.mem_append_left _ z) fun z => List.mem_append_right _ (hp p z))⟩
theorem pin_more {ps : List (Addr × Obj)} (I : Inv X pins σ H s) (hf : ∀ p ∈ ps, FpOk X pins H p.1 ∧ s.heap.get? p.1 = some p.2 ∧ ∀ v, p.2.data ≠ .cell v) : Inv X (pins ++ ps) σ H s :=
  I.pins_of fun p hp => (List.mem_append.mp hp).elim (fun z => I.pin p (List.mem_append_right _ z)) fun z =>
    ⟨(hf p z).2.1, (hf p z).1.1, (hf p z).1.2.1, (hf p z).1.2.2.1, (hf p z).2.2⟩
/-- one tree to a value -/
theorem TV.det {P : Program} {w : World} {K : PySem.W.Frag} {g : G} {H : Hp} : ∀ (n m : Nat) (t u : T) (v : V), TV P w K g H t v → TV P w K g H u v → isDn n t = true → isDn m u = true → t = u := by
  have key : ∀ (n : Nat), (∀ (m : Nat) (t u : T) (v : V), TV P w K g H t v → TV P w K g H u v → isDn n t = true → isDn m u = true → t = u) ∧
      (∀ (m : Nat) (ts us : List T) (vs : List V), TVs P w K g H ts vs → TVs P w K g H us vs → isDs n ts = true → isDs m us = true → ts = us) := by
    have rdt : ∀ {a : Addr} {u u' : HO}, Mut (some u) ∨ (∃ xs, u = .tup xs) → Rd H a u → Rd H a u' → (Mut (some u') ∨ ∃ xs, u' = .tup xs) → u = u' := by
      intro a u u' m r r' m'
      rcases r with r | ⟨o, r⟩ <;> rcases r' with r' | ⟨o', r'⟩ <;> rw [r] at r' <;> cases r'
      · rfl
      · rcases m with m | ⟨xs, m⟩
        · exact m.elim
        · cases m
      · rcases m' with m | ⟨xs, m⟩
        · exact m.elim
        · cases m
      · rfl
    intro n
    induction n with
    | zero =>
      have base : ∀ (m : Nat) (t u : T) (v : V), TV P w K g H t v → TV P w K g H u v → isDn 0 t = true → isDn m u = true → t = u := by
        intro m t u v r1 r2 h1 h2
        cases r1 <;> simp [isDn] at h1 <;> cases r2 <;> first | rfl | (cases m <;> simp [isDn] at h2)
      refine ⟨base, fun m ts => ?_⟩
      induction ts with
      | nil => intro us vs r1 r2 _ _; cases r1; cases r2; rfl
      | cons t ts ih =>
        intro us vs r1 r2 h1 h2
        cases r1 with
        | cons a b =>
          cases r2 with
          | cons c d =>
            have h1' : isDn 0 t = true ∧ isDs 0 ts = true := by simpa [isDs] using h1
            have h2' := (by simpa [isDs] using h2 : isDn m _ = true ∧ isDs m _ = true)
            rw [base m _ _ _ a c h1'.1 h2'.1, ih _ _ b d h1'.2 h2'.2]
    | succ n ih =>
      obtain ⟨ih1, ih2⟩ := ih
      have one : ∀ (m : Nat) (t u : T) (v : V), TV P w K g H t v → TV P w K g H u v → isDn (n + 1) t = true → isDn m u = true → t = u := by
        intro m t u v r1 r2 h1 h2
        cases r1 with
        | tup a1 a2 a3 =>
          cases r2 with
          | tup b1 b2 b3 =>
            obtain ⟨m, rfl⟩ : ∃ k, m = k + 1 := by cases m with | zero => simp [isDn] at h2 | succ k => exact ⟨k, rfl⟩
            have e := rdt (.inr ⟨_, rfl⟩) a2 b2 (.inr ⟨_, rfl⟩)
            cases e
            rw [ih2 m _ _ _ a3 b3 (by simpa [isDn] using h1) (by simpa [isDn] using h2)]
          | lst b1 b2 b3 =>
            have e := rdt (u' := .lst _) (.inr ⟨_, rfl⟩) a2 b2 (.inl trivial)
            cases e
          | _ => first | (cases m <;> simp [isDn] at h2)
        | lst a1 a2 a3 =>
          cases r2 with
          | lst b1 b2 b3 =>
            obtain ⟨m, rfl⟩ : ∃ k, m = k + 1 := by cases m with | zero => simp [isDn] at h2 | succ k => exact ⟨k, rfl⟩
            have e := rdt (u := .lst _) (u' := .lst _) (.inl trivial) a2 b2 (.inl trivial)
            cases e
            rw [ih2 m _ _ _ a3 b3 (by simpa [isDn] using h1) (by simpa [isDn] using h2)]
          | tup b1 b2 b3 =>
            have e := rdt (u := .lst _) (.inl trivial) a2 b2 (.inr ⟨_, rfl⟩)
            cases e
          | _ => first | (cases m <;> simp [isDn] at h2)
        | _ => first | (simp [isDn] at h1; done) | (cases r2 <;> first | rfl | (cases m <;> simp [isDn] at h2))
      refine ⟨one, fun m ts => ?_⟩
      induction ts with
      | nil => intro us vs r1 r2 _ _; cases r1; cases r2; rfl
      | cons t ts ih =>
        intro us vs r1 r2 h1 h2
        cases r1 with
        | cons a b =>
          cases r2 with
          | cons c d =>
            have h1' : isDn (n + 1) t = true ∧ isDs (n + 1) ts = true := by simpa [isDs] using h1
            have h2' := (by simpa [isDs] using h2 : isDn m _ = true ∧ isDs m _ = true)
            rw [one m _ _ _ a c h1'.1 h2'.1, ih _ _ b d h1'.2 h2'.2]
  exact fun n => (key n).1
end
end TL
set_option Elab.async false
set_option linter.all false
set_option maxRecDepth 100000
set_option maxHeartbeats 4000000
/-! TL16: list.sort(key=f) walked. -/
namespace TL
open PySem PySem.Spec L2 PyProof.Rows PySem.W SrtO

section
variable {X : Cx} {pins : List (Addr × Obj)} {σ : L2.St} {H : Hp} {s : Shared}
/-- a def called from within a built-in -/
theorem run_in {A : Around} {E : Value → Shared → Prop} {k : Nat} {f : Addr} {fd : FuncData} {ps : List Str} {sp : Sp} {Q : VK} {us : List Value} {vs : List V} (F : FnOk X.prog X.w X.K X.mg X.base CX0 k f fd ps sp) (hr : Room k A) (he : Env0 X.prog X.w X.K X.mg X.base A X.stack s H) (hb : Binds X.K fd ps [])
    (I : Inv X pins σ H s) (r : Vals vs us) (h : sp vs H Q (fun _ _ _ => False)) : wpAny (model X.prog X.w) A (call (.ref f) us) (EP X pins σ Q) E s := by
  have hl : (us ++ []).length = ps.length := by rw [List.append_nil, ← r.length]; exact F.len _ _ _ _ h
  have hbb := hb s us I.kIn hl
  rw [List.append_nil] at hbb
  refine wpAny_call (codeAny_mono (F.run A X.stack s H ⟨us, []⟩ us vs Q (fun _ _ _ => False) hr he hbb r h) fun r s' hq => ?_)
  cases r with
  | error e => exact False.elim hq
  | ok fl =>
    cases fl with
    | ret u => exact I.after hq
    | next => exact False.elim hq
    | brk => exact False.elim hq
    | cont => exact False.elim hq
theorem Vals.snoc {xs : List V} {us : List Value} {x : V} {u : Value} (h : Vals xs us) (r : L2.RelV x u) : Vals (xs ++ [x]) (us ++ [u]) := h.append (.cons r .nil)

/-- keyed pairs sorted: what comes out -/
theorem perm_trees {α : Type} {P : World → α → Prop} : True := trivial
theorem zip_perm {P : Program} {w : World} {K : PySem.W.Frag} {g : G} {H : Hp} {kf : T → T} {kt : Value → T} : ∀ {l l' : List Keyed}, l.Perm l' → ∀ (ts : List T) (xs : List V), Vals xs (l'.map (·.2)) → TVs P w K g H ts xs → (∀ (i : Nat) (p : Keyed) (t : T), l'[i]? = some p → ts[i]? = some t → kt p.1 = kf t) →
    ∃ ts' xs', ts'.Perm ts ∧ Vals xs' (l.map (·.2)) ∧ TVs P w K g H ts' xs' ∧ l.map (fun p => kt p.1) = ts'.map kf := by
  intro l l' h
  induction h with
  | nil => intro ts xs r rt _; cases r; cases rt; exact ⟨[], [], .nil, .nil, .nil, rfl⟩
  | @cons p l l' _ ih =>
    intro ts xs r rt hk
    cases r with
    | cons r1 r2 =>
      cases rt with
      | @cons t _ ts _ t1 t2 =>
        obtain ⟨ts', xs', h1, h2, h3, h4⟩ := ih ts _ r2 t2 fun i q u e1 e2 => hk (i + 1) q u (by simpa using e1) (by simpa using e2)
        refine ⟨t :: ts', _ :: xs', h1.cons _, .cons r1 h2, .cons t1 h3, ?_⟩
        simp only [List.map_cons, h4, hk 0 p t rfl rfl]
  | @swap p q l =>
    intro ts xs r rt hk
    cases r with
    | cons r1 r2 =>
      cases r2 with
      | cons r2 r3 =>
        cases rt with
        | @cons t _ _ _ t1 t2 =>
          cases t2 with
          | @cons u _ ts _ t2 t3 =>
            refine ⟨u :: t :: ts, _, .swap _ _ _, .cons r2 (.cons r1 r3), .cons t2 (.cons t1 t3), ?_⟩
            have e1 := hk 0 _ t rfl rfl
            have e2 := hk 1 _ u rfl rfl
            have e3 : l.map (fun p => kt p.1) = ts.map kf := by
              apply List.ext_getElem?
              intro i
              rw [List.getElem?_map, List.getElem?_map]
              have hl := r3.length
              have hl2 := t3.len
              rw [List.length_map] at hl
              by_cases hi : i < l.length
              · rw [List.getElem?_eq_getElem hi, List.getElem?_eq_getElem (by omega)]
                have := hk (i + 2) l[i] (ts[i]'(by omega)) (by simp [List.getElem?_eq_getElem hi]) (by simp [List.getElem?_eq_getElem (show i < ts.length by omega)])
                simp [this]
              · rw [List.getElem?_eq_none (by omega), List.getElem?_eq_none (by omega)]; rfl
            simp only [List.map_cons, e1, e2, e3]
  | @trans l1 l2 l3 _ _ ih1 ih2 =>
    intro ts xs r rt hk
    obtain ⟨ts2, xs2, a1, a2, a3, a4⟩ := ih2 ts xs r rt hk
    obtain ⟨ts3, xs3, b1, b2, b3, b4⟩ := ih1 ts2 xs2 a2 a3 fun i p t e1 e2 => by
      have : (l2.map fun p => kt p.1)[i]? = (ts2.map kf)[i]? := by rw [a4]
      rw [List.getElem?_map, List.getElem?_map, e1, e2] at this
      simpa using this
    exact ⟨ts3, xs3, b1.trans a1, b2, b3, b4⟩
end

section
variable {X : Cx} {pins : List (Addr × Obj)} {σ : L2.St} {H : Hp} {s : Shared}
/-- the keys' own order: all of them data that < tells of each two -/
structure KeysOk (dep : Nat) (kf : T → T) (ts : List T) : Prop where
  data : ∀ t ∈ ts, isDn dep (kf t) = true ∧ nb (kf t) = true
  cmp : 2 ≤ ts.length → ∀ t ∈ ts, ∀ u ∈ ts, ∃ c, ltO (kf t) (kf u) = some c
  kind : 2 ≤ ts.length → ∀ t ∈ ts, ∃ i r, kf t = .tup (.int i :: r)
noncomputable def ktOf (P : Program) (w : World) (K : PySem.W.Frag) (g : G) (H : Hp) (dep : Nat) (u : Value) : T :=
  open Classical in if h : ∃ t, isDn dep t = true ∧ ∃ v, TV P w K g H t v ∧ L2.RelV v u then h.choose else .non
theorem ktOf_eq {P : Program} {w : World} {K : PySem.W.Frag} {g : G} {H : Hp} {dep : Nat} {u : Value} {t : T} {v : V} (h1 : isDn dep t = true) (h2 : TV P w K g H t v) (h3 : L2.RelV v u) : ktOf P w K g H dep u = t := by
  have h : ∃ t, isDn dep t = true ∧ ∃ v, TV P w K g H t v ∧ L2.RelV v u := ⟨t, h1, v, h2, h3⟩
  unfold ktOf
  rw [dif_pos h]
  obtain ⟨a, v', b, c⟩ := h.choose_spec
  have e := relV_inj c h3
  rw [e] at b
  exact TV.det dep dep _ _ _ b h2 a h1
theorem katTups_of (I : Inv X pins σ H s) {g : G} : ∀ {ks : List T} {kvs : List V} {us : List Value}, TVs X.prog X.w X.K g H ks kvs → Vals kvs us → (∀ t ∈ ks, ∃ i r, t = .tup (.int i :: r)) → ∃ fs, KatTups s.heap us fs ∧ fs.length = us.length ∧ ∀ f ∈ fs, ∃ i t, f = .int i t
  | [], _, _, .nil, .nil, _ => ⟨[], trivial, rfl, fun _ h => absurd h (by simp)⟩
  | k :: ks, _, _, .cons r rs, .cons u us, h => by
    obtain ⟨fs, h1, h2, h3⟩ := katTups_of I rs us fun t ht => h t (List.mem_cons_of_mem _ ht)
    obtain ⟨i, rr, rfl⟩ := h k (List.mem_cons_self ..)
    cases r with
    | @tup a _ xs a1 a2 a3 =>
      cases u
      obtain ⟨its, w1, ⟨o, ho, hc, n, hd⟩, _⟩ := I.tuple (.inl a2)
      cases a3 with
      | cons b1 b2 =>
        cases b1
        cases w1 with
        | @cons _ iu _ ius wi _ =>
          obtain ⟨t, rfl⟩ := wi
          refine ⟨.int i t :: fs, ⟨⟨a, o, _, n, rfl, ho, hc, hd, by simp⟩, h1⟩, by simp [h2], fun f hf => ?_⟩
          rcases List.mem_cons.mp hf with e | e
          · exact ⟨i, t, e⟩
          · exact h3 f e
theorem key_cmp {g : G} {dep : Nat} {ks : List T} {kvs : List V} {us : List Value} {A : Around} (I : Inv X pins σ H s) (rt : TVs X.prog X.w X.K g H ks kvs) (ru : Vals kvs us) (hd : ∀ t ∈ ks, isDn dep t = true ∧ nb t = true) (hu : A.units + dep + dep + 4 < cLine)
    (hc : ∀ t ∈ ks, ∀ u ∈ ks, ∃ c, ltO t u = some c) (hk : ∀ t ∈ ks, ∃ i r, t = .tup (.int i :: r)) :
    Cmp X.prog X.w A s (tuples' true) (fun p => p.1 ∈ us) (fun p q => ltB (ktOf X.prog X.w X.K g H dep p.1) (ktOf X.prog X.w X.K g H dep q.1)) := by
  intro p q hp hq
  have get : ∀ u ∈ us, ∃ t v, t ∈ ks ∧ TV X.prog X.w X.K g H t v ∧ L2.RelV v u := by
    intro u hu
    obtain ⟨i, hi⟩ := List.mem_iff_getElem?.mp hu
    have hl := ru.length
    have hl2 := rt.len
    obtain ⟨hi1, hi2⟩ := List.getElem?_eq_some_iff.mp hi
    obtain ⟨v, e1, e2⟩ := rt.get (i := i) (List.getElem?_eq_getElem (show i < ks.length by omega))
    obtain ⟨u', e3, e4⟩ := L2.Vals.get ru e1
    rw [hi] at e3
    cases e3
    exact ⟨_, v, List.getElem_mem _, e2, e4⟩
  obtain ⟨t1, v1, m1, r1, u1⟩ := get _ hp
  obtain ⟨t2, v2, m2, r2, u2⟩ := get _ hq
  show wpAny (model X.prog X.w) A (keyLt' (tuples' true) p.1 q.1) (fun r s' => s' = s ∧ r = ltB (ktOf X.prog X.w X.K g H dep p.1) (ktOf X.prog X.w X.K g H dep q.1)) (fun _ _ => False) s
  rw [ktOf_eq (hd t1 m1).1 r1 u1, ktOf_eq (hd t2 m2).1 r2 u2]
  obtain ⟨c, hcc⟩ := hc t1 m1 t2 m2
  have hB := ltO_ltB (hd t1 m1).2 (hd t2 m2).2 hcc
  rw [hB]
  obtain ⟨i, r, e1⟩ := hk t1 m1
  obtain ⟨j, r', e2⟩ := hk t2 m2
  obtain ⟨d1, _⟩ := hd t1 m1
  obtain ⟨d2, _⟩ := hd t2 m2
  rw [e1] at r1 hcc d1
  rw [e2] at r2 hcc d2
  cases r1 with
  | tup a1 a2 a3 =>
    cases r2 with
    | tup b1 b2 b3 =>
      obtain ⟨x, y⟩ := p
      obtain ⟨x', y'⟩ := q
      dsimp only at u1 u2 ⊢
      cases u1; cases u2
      obtain ⟨its, w1, ⟨o, ho, hcl, n, hdt⟩, _⟩ := I.tuple (.inl a2)
      obtain ⟨its2, w2, ⟨o2, ho2, hcl2, n2, hdt2⟩, _⟩ := I.tuple (.inl b2)
      obtain ⟨dp, rfl⟩ : ∃ k, dep = k + 1 := by cases dep with | zero => simp [isDn] at d1 | succ k => exact ⟨k, rfl⟩
      refine PySem.W.kat_lt ho hdt ho2 hdt2 ?_
      simp only [ltO] at hcc
      have d1' : isDs dp (.int i :: r) = true := by simpa [isDn] using d1
      have d2' : isDs dp (.int j :: r') = true := by simpa [isDn] using d2
      have l1 : its.toArray.size = its.length := by simp
      have l2 : its2.toArray.size = its2.length := by simp
      have go : ∀ (xs ys : List T) (vs ws : List V) (us us2 : List Value) (m : Nat), TVs X.prog X.w X.K g H xs vs → TVs X.prog X.w X.K g H ys ws → Vals vs us → Vals ws us2 → isDs dp xs = true → isDs dp ys = true → lexO xs ys = some c →
          (m = 0 → ∃ i j xs' ys', xs = .int i :: xs' ∧ ys = .int j :: ys') → PySem.W.KatLex X.prog X.w A true (decide (us.length < us2.length)) (fun r s' => s' = s ∧ r = c) (us.zip us2) m s := by
        intro xs
        induction xs with
        | nil =>
          intro ys vs ws us us2 m q1 q2 q3 q4 q5 q6 q7 q8
          cases q1; cases q3
          cases q2 with
          | nil => cases q4; simp only [lexO, Option.some.injEq] at q7; exact ⟨rfl, by rw [← q7]; simp⟩
          | cons _ _ => cases q4; simp only [lexO, Option.some.injEq] at q7; exact ⟨rfl, by rw [← q7]; simp⟩
        | cons x xs ih =>
          intro ys vs ws us us2 m q1 q2 q3 q4 q5 q6 q7 q8
          cases q2 with
          | nil =>
            cases q4; cases q1; cases q3
            simp only [lexO, Option.some.injEq] at q7
            exact ⟨rfl, by rw [← q7]; simp⟩
          | @cons y _ ys _ y1 y2 =>
            cases q1 with
            | cons x1 x2 =>
              cases q3 with
              | @cons _ xu _ xus x3 x4 =>
                cases q4 with
                | @cons _ yu _ yus y3 y4 =>
                  have f1 : isDn dp x = true ∧ isDs dp xs = true := by simpa [isDs] using q5
                  have f2 : isDn dp y = true ∧ isDs dp ys = true := by simpa [isDs] using q6
                  have E0 : SeqAt.EqAt A s xu yu (eqb x y) := by
                    obtain ⟨as, ra⟩ := Dp.reads I _ _ _ (TV.dp X.K dp x _ x1 f1.1) x3
                    obtain ⟨bs, rb⟩ := Dp.reads I _ _ _ (TV.dp X.K dp y _ y1 f2.1) y3
                    have k1 := isDn_lay dp x f1.1
                    have k2 := isDn_lay dp y f2.1
                    have k := SeqAt.eqAt_reads (pd x) (pd y) A s xu yu as bs ra rb k1.1 k2.1 (by omega)
                    rw [eqv_pd dp dp x y f1.1 f2.1] at k
                    exact k
                  refine PySem.W.kat_cons (E0 _ _ _ _ ?_)
                  simp only [lexO] at q7
                  cases e : eqb x y with
                  | true =>
                    rw [if_pos e] at q7
                    refine PySem.W.kat_yes ?_
                    have hl : decide ((xu :: xus).length < (yu :: yus).length) = decide (xus.length < yus.length) := by simp
                    rw [hl]
                    exact ih ys _ _ xus yus (m + 1) x2 y2 x4 y4 f1.2 f2.2 q7 (fun z => by omega)
                  | false =>
                    rw [if_neg (by rw [e]; exact Bool.false_ne_true)] at q7
                    refine PySem.W.kat_no ?_
                    by_cases hm : m = 0
                    · obtain ⟨i, j, _, _, z1, z2⟩ := q8 hm
                      injection z1 with z1 _
                      injection z2 with z2 _
                      subst z1; subst z2
                      cases x1; cases y1
                      obtain ⟨t, rfl⟩ := x3
                      obtain ⟨t', rfl⟩ := y3
                      have hb : (true && m == 0) = true := by subst hm; rfl
                      rw [hb]
                      simp only [ltO, Option.some.injEq] at q7
                      exact oneLt_int ⟨rfl, q7⟩
                    · have hb : (true && m == 0) = false := by simp [hm]
                      rw [hb]
                      refine PySem.W.kat_one _ _ ?_
                      exact rc_lt I dp dp x y _ _ xu yu A c x1 y1 x3 y3 f1.1 f2.1 q7 (by omega) _ _ _ _ ⟨rfl, rfl⟩
      have q := go _ _ _ _ its its2 0 a3 b3 w1 w2 d1' d2' hcc fun _ => ⟨i, j, r, r', rfl, rfl⟩
      rw [← l1, ← l2] at q
      simpa using q
end
end TL
set_option Elab.async false
set_option linter.all false
set_option maxRecDepth 100000
set_option maxHeartbeats 4000000
/-! TL17: sorted(x, key=f). -/
namespace TL
open PySem PySem.Spec L2 PyProof.Rows PySem.W SrtO

section
variable {X : Cx} {pins : List (Addr × Obj)} {σ : L2.St} {H : Hp} {s : Shared}
theorem Inv.shared (I : Inv X pins σ H s) {h' : Heap} {g' : Array GenState} {tk : Nat} {d : Drawn} {os} (e1 : g' = s.gens) (e2 : os = s.os) (e3 : h' = s.heap) : Inv X pins σ H { heap := h', gens := g', drawn := d, toks := tk, os := os } := by
  subst e1; subst e2; subst e3
  exact ⟨I.ok, I.os, I.bare, I.base, I.loc, I.cell, I.free, I.freeC, I.pin, I.hok, I.len⟩
theorem keyed_tree {f : Addr} {A : Around} {E : Value → Shared → Prop} {P : PySem.Fin → Shared → Prop} {a : Addr} {n : Nat} {g : G} {ts : List T} {xs : List V} {vs : List Value} {kf : T → T} {dep : Nat}
    (hcall : ∀ (pins' : List (Addr × Obj)) (s' : Shared) (H' : Hp) (x : Value) (v : V) (t : T), t ∈ ts → Inv X pins' σ H' s' → Ext g H g H' → RG X.prog X.w X.K g H' → TV X.prog X.w X.K g H' t v → L2.RelV v x →
      wpAny (model X.prog X.w) A (call (.ref f) [x]) (EP X pins' σ fun kv H2 => TV X.prog X.w X.K g H2 (kf t) kv ∧ Ext g H' g H2 ∧ RG X.prog X.w X.K g H2) (fun _ _ => False) s')
    (I : Inv X pins σ H s) (R : RG X.prog X.w X.K g H) (fa : FpOk X pins H a) (ho : s.heap.get? a = some (seqObj "list" vs.toArray n)) (rv : Vals xs vs) (rt : TVs X.prog X.w X.K g H ts xs) (hz : ts.length ≤ sizeLine)
    (hK : KeysOk dep kf ts) (hu : A.units + dep + dep + 4 < cLine)
    (h : ∀ s' H' ts' xs' vs' c, Inv X pins σ H' s' → Ext g H g H' → RG X.prog X.w X.K g H' → FpOk X pins H' a → s'.heap.get? a = some (seqObj "list" (List.toArray vs') c) → Vals xs' vs' → TVs X.prog X.w X.K g H' ts' xs' → ts'.Perm ts → (ts'.Pairwise fun x y => ltB (kf y) (kf x) = false) → P (.done (.ret .none)) s') :
    wpAny (model X.prog X.w) A (ksk_tree a (.ref f) false) P E s := by
  have hvl : vs.length = ts.length := by rw [← rv.length, ← rt.len]
  have ha : a < s.heap.objs.size := Heap.lt_size ho
  obtain ⟨e1, ho1⟩ : ∃ e1, (s.heap.update a (Obj.mapSeq fun _ => (#[] : Array Value))).get? a = some (seqObj "list" #[] e1) := ⟨_, get?_update_seq ho fun _ => #[]⟩
  unfold ksk_tree
  refine wpAny_bind (listItems_at ho rfl ?_)
  refine wpAny_bind (listUpdate_at ho rfl ?_ (by rw [List.size_toArray]; omega) (Nat.zero_le _))
  refine wpAny_bind (seqEpoch_at ho1 rfl ?_)
  refine wpAny_bind (wpAny_newTuple ?_ (by show vs.length ≤ _; omega))
  refine wpAny_bind (wpAny_newList ?_ (Nat.zero_le _))
  refine wpAny_holding ?_
  obtain ⟨f0, f1, f2, f3, f4, f5⟩ := id fa
  have I1 : Inv X pins σ H { s with heap := s.heap.update a (Obj.mapSeq fun _ => (#[] : Array Value)) } := I.turned (t' := s.toks) (fun b o hb e => (Heap.get?_update_ne _ _ _ _ hb).trans e) f0 f1 f3 f4 f5
  have I2 : Inv X pins σ H { s with heap := ((s.heap.update a (Obj.mapSeq fun _ => (#[] : Array Value))).push (seqObj "tuple" vs.toArray 0)).push (seqObj "list" #[] 0) } :=
    I1.kept (t' := s.toks) fun b o e => Heap.get?_push_of_some _ (Heap.get?_push_of_some _ e)
  generalize hkS : ((s.heap.update a (Obj.mapSeq fun _ => (#[] : Array Value))).push (seqObj "tuple" vs.toArray 0)).objs.size = kS
  have hsz : s.heap.objs.size ≤ kS := by rw [← hkS, size_push', Heap.size_update]; exact Nat.le_succ _
  have fk : FpOk X pins H kS := I.fpOk hsz (I.hok.fresh hsz)
  have hka : kS ≠ a := Nat.ne_of_gt (Nat.lt_of_lt_of_le ha hsz)
  have nk : (((s.heap.update a (Obj.mapSeq fun _ => (#[] : Array Value))).push (seqObj "tuple" vs.toArray 0)).push (seqObj "list" #[] 0)).get? kS = some (seqObj "list" #[] 0) := by rw [← hkS]; exact Heap.get?_push_size _ rfl
  have na : (((s.heap.update a (Obj.mapSeq fun _ => (#[] : Array Value))).push (seqObj "tuple" vs.toArray 0)).push (seqObj "list" #[] 0)).get? a = some (seqObj "list" #[] e1) := Heap.get?_push_of_some _ (Heap.get?_push_of_some _ ho1)
  show wpAny (model X.prog X.w) A (ksk_rest a (.ref f) false vs.toArray e1 (.ref kS)) P E { s with heap := ((s.heap.update a (Obj.mapSeq fun _ => (#[] : Array Value))).push (seqObj "tuple" vs.toArray 0)).push (seqObj "list" #[] 0) }
  have fpK : ∀ {H' : Hp} {b : Addr}, FpOk X pins H b → H' b = none → FpOk X pins H' b := fun q z => ⟨z, q.2⟩
  have pinned : ∀ {H' : Hp} {s' : Shared} {kA : Array Value} {e : Nat}, Inv X pins σ H' s' → H' a = none → H' kS = none → s'.heap.get? a = some (seqObj "list" #[] e1) → s'.heap.get? kS = some (seqObj "list" kA e) →
      Inv X (pins ++ [(a, seqObj "list" #[] e1), (kS, seqObj "list" kA e)]) σ H' s' := fun J za zk ga gk => pin_more J fun p hp => by
    rcases List.mem_cons.mp hp with rfl | hp
    rotate_left
    rcases List.mem_singleton.mp hp with rfl
    rotate_left
    · exact ⟨fpK fa za, ga, fun v z => nomatch z⟩
    · exact ⟨fpK fk zk, gk, fun v z => nomatch z⟩
  unfold ksk_rest
  refine wpAny_bind (wpAny_rule ?_)
  first
    | rw [List.forIn_toArray]
    | (rw [← Array.forIn_toList]; simp only [List.toList_toArray])
  refine wpAny_bind (ksk_fold (fun i s' => ∃ H' kA e kvs, Inv X (pins ++ [(a, seqObj "list" #[] e1), (kS, seqObj "list" kA e)]) σ H' s' ∧ Ext g H g H' ∧ RG X.prog X.w X.K g H' ∧ Vals kvs kA.toList ∧ TVs X.prog X.w X.K g H' ((ts.map kf).take i) kvs) vs 0 _
    ⟨H, #[], 0, [], pinned I2 f0 fk.1 na nk, Ext.refl, R, .nil, .nil⟩ ?step ?done)
  case step =>
    rintro j x s' hx ⟨H', kA, e, kvs, J, eH, RH, rk, tk⟩
    simp only [Nat.zero_add] at tk ⊢
    have hj : j < vs.length := (List.getElem?_eq_some_iff.mp hx).1
    obtain ⟨v, hv, rx⟩ : ∃ v, xs[j]? = some v ∧ L2.RelV v x := by
      have hl := rv.length
      obtain ⟨u, e3, e4⟩ := L2.Vals.get (i := j) rv (List.getElem?_eq_getElem (show j < xs.length by omega))
      rw [hx] at e3
      cases e3
      exact ⟨_, List.getElem?_eq_getElem _, e4⟩
    obtain ⟨t, ht, tv⟩ := rt.getV hv
    have hm : t ∈ ts := List.mem_of_getElem? ht
    have call := hcall _ s' H' x v t hm J eH RH (tv.mono eH.stay) rx
    refine wpAny_bind (wpAny_attempt (wpAny_mono call (fun kv s'' he => ?_) fun _ _ hF => hF.elim))
    obtain ⟨w, H2, J2, rw2, tw, eW, RW⟩ := he
    try dsimp only
    have pk := J2.pin (kS, seqObj "list" kA e) (List.mem_append_right _ (List.mem_append_right _ (by simp)))
    have pa := J2.pin (a, seqObj "list" #[] e1) (List.mem_append_right _ (List.mem_append_right _ (by simp)))
    have nk2 : s''.heap.get? kS = some (seqObj "list" kA e) := pk.1
    have na2 : s''.heap.get? a = some (seqObj "list" #[] e1) := pa.1
    have sk := Heap.SameBut.update s''.heap kS (Obj.mapSeq (·.push kv))
    obtain ⟨c2, hc2⟩ : ∃ c2, (s''.heap.update kS (Obj.mapSeq (·.push kv))).get? kS = some (seqObj "list" (kA.push kv) c2) := ⟨_, get?_update_seq nk2 (·.push kv)⟩
    have hkz : kA.size ≤ vs.length := by
      have l1 : kvs.length = kA.size := by rw [← Array.length_toList]; exact L2.Vals.length rk
      have l2 := tk.len
      rw [List.length_take, List.length_map] at l2
      omega
    refine wpAny_bind (listUpdate_at nk2 rfl ?_ (by omega) (by rw [Array.size_push]; omega))
    have J3 : Inv X pins σ H2 s'' := J2.unpinned
    have J4 : Inv X pins σ H2 { s'' with heap := s''.heap.update kS (Obj.mapSeq (·.push kv)) } := by
      have fk2 := fpK (H' := H2) fk pk.2.1
      exact J3.turned (t' := s''.toks) (fun b o hb e => (Heap.get?_update_ne _ _ _ _ hb).trans e) fk2.1 fk2.2.1 fk2.2.2.2.1 fk2.2.2.2.2.1 fk2.2.2.2.2.2
    refine wpAny_pure ⟨rfl, H2, kA.push kv, c2, kvs ++ [w], pinned J4 pa.2.1 pk.2.1 ((Heap.get?_update_ne _ _ _ _ hka.symm).trans na2) hc2, eH.trans eW, RW, ?_, ?_⟩
    · have ea : (kA.push kv).toList = kA.toList ++ [kv] := by simp
      rw [ea]
      exact Vals.snoc rk rw2
    · have ek : (ts.map kf).take (j + 1) = (ts.map kf).take j ++ [kf t] := by
        rw [List.take_add_one, List.getElem?_map, ht]; simp
      rw [ek]
      exact (tk.mono eW.stay).app (.cons tw .nil)
  case done =>
    rintro s' ⟨H', kA, e, kvs, J, eH, RH, rk, tk⟩
    have e3 : (ts.map kf).take (0 + vs.length) = ts.map kf := List.take_of_length_le (by rw [List.length_map]; omega)
    rw [e3] at tk
    have pk := J.pin (kS, seqObj "list" kA e) (List.mem_append_right _ (List.mem_append_right _ (by simp)))
    have pa := J.pin (a, seqObj "list" #[] e1) (List.mem_append_right _ (List.mem_append_right _ (by simp)))
    have nk2 : s'.heap.get? kS = some (seqObj "list" kA e) := pk.1
    have na2 : s'.heap.get? a = some (seqObj "list" #[] e1) := pa.1
    have J1 : Inv X pins σ H' s' := J.unpinned
    have hkl : kA.size = vs.length := by
      have l1 : kvs.length = kA.size := by rw [← Array.length_toList]; exact L2.Vals.length rk
      have l2 := tk.len
      rw [List.length_map] at l2
      omega
    try dsimp only
    refine wpAny_bind (listItems_at nk2 rfl ?_)
    -- the end of the sort
    have fin : ∀ st' : SortSt, Srtd (fun p q : Keyed => ltB (ktOf X.prog X.w X.K g H' dep p.1) (ktOf X.prog X.w X.K g H' dep q.1)) (arrOf st').toList → (arrOf st').toList.Perm (kA.zip vs.toArray).toList → failedOf st' = none →
        wpAny (model X.prog X.w) A (ksk_tail a false e1 (.ref kS) st') P E s' := by
      intro st' hs hp hf
      have ez : (kA.zip vs.toArray).toList = kA.toList.zip vs := ksk_zip kA vs
      rw [ez] at hp
      have hsn : (kA.toList.zip vs).map (·.2) = vs := List.map_snd_zip (by have z : kA.toList.length = kA.size := Array.length_toList; omega)
      obtain ⟨ts', xs', q1, q2, q3, q4⟩ := zip_perm (P := X.prog) (w := X.w) (K := X.K) (g := g) (H := H') (kf := kf) (kt := ktOf X.prog X.w X.K g H' dep) hp ts xs (by rw [hsn]; exact rv) (rt.mono eH.stay) fun i p t g1 g2 => by
        have g3 : kA.toList[i]? = some p.1 := by
          rw [List.getElem?_zip_eq_some] at g1
          exact g1.1
        obtain ⟨kv, g4, g5⟩ := tk.get (i := i) (t := kf t) (by rw [List.getElem?_map, g2]; rfl)
        obtain ⟨u, g6, g7⟩ := L2.Vals.get rk g4
        rw [g3] at g6
        cases g6
        exact ktOf_eq (hK.data t (List.mem_of_getElem? g2)).1 g5 g7
      have hpw : ts'.Pairwise fun x y => ltB (kf y) (kf x) = false := by
        have z : ((arrOf st').toList.map fun p => ktOf X.prog X.w X.K g H' dep p.1).Pairwise fun x y => ltB y x = false := List.pairwise_map.mpr hs
        rw [q4] at z
        exact List.pairwise_map.mp z
      have hol : ((arrOf st').map (·.2)).size = vs.length := by
        have := hp.length_eq
        rw [Array.length_toList, List.length_zip, Array.length_toList, hkl] at this
        rw [Array.size_map]; omega
      have hd : ¬ kS = a := hka
      have na3 : (s'.heap.update kS (Obj.mapSeq fun _ => (#[] : Array Value))).get? a = some (seqObj "list" #[] e1) := (Heap.get?_update_ne _ _ _ _ hka.symm).trans na2
      unfold ksk_tail
      try dsimp only
      refine wpAny_bind (listUpdate_at nk2 rfl ?_ (by omega) (Nat.zero_le _))
      refine wpAny_bind (wpAny_letGo ?_)
      refine wpAny_bind (seqEpoch_at na3 rfl ?_)
      refine wpAny_bind (listUpdate_at na3 rfl ?_ (Nat.zero_le _) (by simp only [Bool.false_eq_true, if_false]; omega))
      rw [hf]
      simp only [bne_self_eq_false, Bool.false_eq_true, if_false]
      obtain ⟨c2, hc2⟩ : ∃ c2, ((s'.heap.update kS (Obj.mapSeq fun _ => (#[] : Array Value))).update a (Obj.mapSeq fun _ => (arrOf st').map (·.2))).get? a = some (seqObj "list" ((arrOf st').map (·.2)) c2) :=
        ⟨_, get?_update_seq na3 fun _ => (arrOf st').map (·.2)⟩
      have fk2 := fpK (H' := H') fk pk.2.1
      have fa2 := fpK (H' := H') fa pa.2.1
      have J5 : Inv X pins σ H' { s' with heap := s'.heap.update kS (Obj.mapSeq fun _ => (#[] : Array Value)) } := J1.turned (t' := s'.toks) (fun b o hb e => (Heap.get?_update_ne _ _ _ _ hb).trans e) fk2.1 fk2.2.1 fk2.2.2.2.1 fk2.2.2.2.2.1 fk2.2.2.2.2.2
      have J6 : Inv X pins σ H' { s' with heap := (s'.heap.update kS (Obj.mapSeq fun _ => (#[] : Array Value))).update a (Obj.mapSeq fun _ => (arrOf st').map (·.2)) } := J5.turned (t' := s'.toks) (fun b o hb e => (Heap.get?_update_ne _ _ _ _ hb).trans e) fa2.1 fa2.2.1 fa2.2.2.2.1 fa2.2.2.2.2.1 fa2.2.2.2.2.2
      have e0 : ((arrOf st').toList.map (·.2)).toArray = (arrOf st').map (·.2) := by rw [← Array.toList_map, Array.toArray_toList]
      exact wpAny_pure (h _ H' ts' xs' ((arrOf st').toList.map (·.2)) c2 (J6.tok _) eH RH fa2 (by rw [e0]; exact hc2) q2 q3 q1 hpw)
    unfold ksk_end
    try dsimp only
    simp only [Bool.false_eq_true, if_false]
    by_cases hl2 : vs.toArray.size < 2
    · rw [if_pos hl2, if_pos hl2]
      refine wpAny_bind (wpAny_pure ?_)
      rw [StateT.run_pure]
      refine wpAny_bind (wpAny_pure ?_)
      try dsimp only
      refine fin _ ?_ (List.Perm.refl _) rfl
      have hzl : (kA.zip vs.toArray).toList.length < 2 := by rw [Array.length_toList, Array.size_zip]; omega
      show Srtd _ (kA.zip vs.toArray).toList
      match hzz : (kA.zip vs.toArray).toList, hzl with
      | [], _ => exact List.Pairwise.nil
      | [v], _ => exact List.pairwise_singleton _ _
      | _ :: _ :: l, hq => exact absurd hq (by rw [List.length_cons, List.length_cons]; omega)
    · rw [if_neg hl2, if_neg hl2]
      rw [List.size_toArray] at hl2
      obtain ⟨fs, t1, t2, t3⟩ := katTups_of J1 tk rk fun t ht => by
        obtain ⟨u, hu1, hu2⟩ := List.mem_map.mp ht
        subst hu2
        exact hK.kind (by omega) u hu1
      have hkk : kA.toList.toArray = kA := Array.toArray_toList
      have hT : (Value.type "int" != Value.type "tuple") = true := by first | decide +kernel | rfl | decide
      have kk : wpAny (model X.prog X.w) A (keyKind' kA) (fun κ s2 => κ = tuples' true ∧ s2 = s') E s' := by
        have := PySem.W.kat_kind (M := model X.prog X.w) (A := A) (E := E) (s := s') (T := .type "int") (Q := fun κ s2 => κ = tuples' true ∧ s2 = s') t1 (by rw [t2, Array.length_toList]; omega) (fun f hm => by
          obtain ⟨x, t, rfl⟩ := t3 f hm
          exact PySem.W.Looks.now) (by rfl) ⟨by rw [hT], rfl⟩
        rw [hkk] at this
        exact this
      refine wpAny_bind (wpAny_mono kk (fun κ s2 hκ => ?_) fun _ _ z => z)
      obtain ⟨rfl, rfl⟩ := hκ
      have hC := key_cmp (A := A) J1 tk rk (fun t ht => by obtain ⟨u, hu1, hu2⟩ := List.mem_map.mp ht; subst hu2; exact hK.data u hu1) hu (fun t ht u hu => by
        obtain ⟨t', h1, rfl⟩ := List.mem_map.mp ht
        obtain ⟨u', h2, rfl⟩ := List.mem_map.mp hu
        exact hK.cmp (by omega) t' h1 u' h2) (fun t ht => by obtain ⟨u, hu1, hu2⟩ := List.mem_map.mp ht; subst hu2; exact hK.kind (by omega) u hu1)
      have hall : AllL (fun p : Keyed => p.1 ∈ kA.toList) (kA.zip vs.toArray).toList := fun p hm => by
        rw [ksk_zip] at hm
        exact (List.of_mem_zip (show (p.1, p.2) ∈ _ from hm)).1
      refine wpAny_bind (wpAny_mono (wpS_sortO (st0 := SortSt.mk' (tuples' true) (kA.zip vs.toArray) #[] 7 none)
        (Q := fun _ st' => Srtd (fun p q : Keyed => ltB (ktOf X.prog X.w X.K g H' dep p.1) (ktOf X.prog X.w X.K g H' dep q.1)) (arrOf st').toList ∧ (arrOf st').toList.Perm (kA.zip vs.toArray).toList ∧ failedOf st' = none)
        (lt := fun p q : Keyed => ltB (ktOf X.prog X.w X.K g H' dep p.1) (ktOf X.prog X.w X.K g H' dep q.1)) ⟨fun x y => ltB_asym _ _, fun x y z => ltB_tr _ _ _⟩ hC rfl hall rfl rfl fun st' a1 a2 a3 => ⟨a1, a2.perm, a3⟩) ?_ fun _ _ e => e)
      rintro ⟨⟨⟩, st'⟩ s3 ⟨rfl, b1, b2, b3⟩
      try dsimp only
      exact fin st' b1 b2 b3
end
end TL
set_option Elab.async false
set_option linter.all false
set_option maxRecDepth 100000
set_option maxHeartbeats 4000000
/-! TL18: the rule for sorted(x, key=f). -/
namespace TL
open PySem PySem.Spec L2 PyProof.Rows PySem.W SrtO

section
variable {X : Cx}
/-- what is walked of a list or of a dict's keys -/
def itemsT (g : G) (d : T) : Option (List T) := match res g d with
  | .lst ts => some ts
  | .dct kvs => some (kvs.map (·.1))
  | _ => none
abbrev QCK := List T → List T → G → K1 → Prop
def lowCK (X : Cx) (r : QCK) : List V → List V → Hp → VK → Prop := fun xs zs H Q => ∃ ds es g Q', TVs X.prog X.w X.K g H ds xs ∧ TVs X.prog X.w X.K g H es zs ∧ RG X.prog X.w X.K g H ∧ r ds es g Q' ∧ KE X g H Q' Q
def bSortK (f : Addr) (sp : TSp) : QCK := fun ds es g Q => match ds, es with
  | [d], [.ref f'] => f' = f ∧ ∃ ts kf dep, itemsT g d = some ts ∧ ts.length ≤ sizeLine ∧ (∀ t ∈ ts, ∀ Q : K1, Q (kf t) g → sp [t] g Q noX) ∧ KeysOk dep kf ts ∧ dep ≤ 60 ∧
      ∀ ts' p, ts'.Perm ts → (ts'.Pairwise fun x y => ltB (kf y) (kf x) = false) → g p = none → Q (.ref p) (gput g p (.lst ts'))
  | _, _ => False
theorem collect_items {pins : List (Addr × Obj)} {σ : L2.St} {H : Hp} {s : Shared} {g : G} {d : T} {v : V} {u : Value} {ts : List T} {A : Around} {E : Value → Shared → Prop} {Q : List Value → Shared → Prop} (hh : A.handled = none) (I : Inv X pins σ H s) (R : RG X.prog X.w X.K g H) (r : TV X.prog X.w X.K g H d v) (ru : L2.RelV v u) (e : itemsT g d = some ts) (hz : ts.length ≤ sizeLine)
    (h : ∀ h' tk xs vs, (∀ b o, s.heap.get? b = some o → h'.get? b = some o) → Vals xs vs → TVs X.prog X.w X.K g H ts xs → Q vs { s with heap := h', toks := tk }) : wpAny (model X.prog X.w) A (collect u) Q E s := by
  have q := res_rv R r
  unfold itemsT at e
  split at e
  · rename_i us e1
    cases e
    rw [e1] at q
    obtain ⟨a, xs, rfl, ha, hx⟩ := q.toLst
    cases ru
    obtain ⟨hl, its, n, rv, pl⟩ := rdl I ha
    have hi : s.heap.IsList a its.toArray := ⟨_, pl.2, rfl, _, rfl⟩
    refine collect_list hi (h _ s.toks xs its (fun b o q => ?_) rv hx) (by rw [← rv.length, ← hx.len]; exact hz)
    rw [Heap.get?_update_ne _ _ _ _ (Nat.ne_of_lt (Heap.lt_size q))]
    exact Heap.get?_push_of_some _ q
  · rename_i kvs e1
    cases e
    rw [e1] at q
    obtain ⟨a, ho, rfl, ha, hd⟩ := q.toDct
    cases ru
    obtain ⟨es, ep, hr, hsz, hs, hz2, hen⟩ := dict_ent I.hok ha hd
    refine PySem.W.kdu_collect (KdlSrc.rawDict hs) hh hr (by omega) fun h' tk acc kp ho => ?_
    have hal : acc.toList.length = es.size := by
      have := ho.1
      simpa using this
    obtain ⟨vs, h1, h2⟩ := vals_of (P := X.prog) (w := X.w) (K := X.K) (g := g) (H := H) (kvs.map (·.1)) acc.toList (by rw [List.length_map, hal, hsz]) fun i t u e1 e2 => by
      rw [List.getElem?_map] at e1
      cases q0 : kvs[i]? with
      | none => rw [q0] at e1; cases e1
      | some kt =>
        rw [q0] at e1
        obtain ⟨k0, t0⟩ := kt
        obtain rfl : k0 = t := by simpa using e1
        obtain ⟨en, kv, tv, z1, z2, z3, _⟩ := hen i _ _ q0
        obtain ⟨hi, e3⟩ := ho.2 i u (by simpa using e2)
        have : es[i]? = some es[i] := by simp [hi]
        rw [this] at z1
        cases z1
        exact ⟨kv, by rw [e3]; exact z2, z3⟩
    exact h h' tk vs acc.toList kp h1 h2
  · cases e
theorem cr_sortK {k : Nat} {f : Addr} {fd : FuncData} {ps : List Str} {sp : TSp} (F : FnOk X.prog X.w X.K X.mg X.base CX0 k f fd ps (lowSp X.prog X.w X.K 1 sp)) (hr : Room (k + 2) X.A) (hb : Binds X.K fd ps []) (hc : X.calm = true) :
    CallRK X (.builtin "sorted") [Str.ofString "key"] (lowCK X (bSortK f sp)) := by
  intro pins s σ H xs zs us ws Q I rx rz h
  obtain ⟨ds, es, g, Q', r1, r2, R, hh, kk⟩ := h
  unfold bSortK at hh
  split at hh
  · rename_i d f'
    obtain ⟨rfl, ts, kf, dep, hit, hz, hsp, hK, hdep, hq⟩ := hh
    cases r1 with
    | cons rd r1 =>
      cases r1
      cases r2 with
      | cons rf r2 =>
        cases r2
        cases rf
        obtain ⟨u, rfl, ru⟩ := rx.one
        obtain ⟨w, rfl, rw'⟩ := rz.one
        cases rw'
        show wpAny (model X.prog X.w) X.A (call (.builtin "sorted") [u] [(Str.ofString "key", .ref f')]) (EP X pins σ Q) X.xe s
        refine call_function_entry_kw kind_sorted plain_sorted entry_sorted (PyProof.Rows.ksk_s1 _ _) ?_
        unfold Builtin.«sorted»
        refine wpAny_bind (m := checkCount "sorted" 1 1 _) (wpAny_pure ?_)
        refine wpAny_bind (collect_items (A := X.A.in1) (I.ok.hd hc) I R rd ru hit hz fun h' tk xs vs kp rv rt => ?_)
        have hvl : vs.length = ts.length := by rw [← rv.length, ← rt.len]
        refine wpAny_bind (wpAny_newList ?_ (by show vs.length ≤ _; omega))
        have I1 : Inv X pins σ H { s with heap := h', toks := tk } := I.kept kp
        have I2 : Inv X pins σ H { s with heap := h'.push (seqObj "list" vs.toArray 0), toks := tk } := I1.kept (t' := tk) fun b o e => Heap.get?_push_of_some _ e
        have fa : FpOk X pins H h'.objs.size := I1.fpOk (Nat.le_refl _) (I1.hok.fresh (Nat.le_refl _))
        have hoL : (h'.push (seqObj "list" vs.toArray 0)).get? h'.objs.size = some (seqObj "list" vs.toArray 0) := Heap.get?_push_size _ rfl
        refine wpAny_bind (wpAny_holding (wpAny_call_entry_kw slot_list_sort ⟨_, hoL, rfl⟩ entry_list_sort ?_ (PyProof.Rows.ksk_l1 _ _)))
        rw [ksk_t1]
        have hu := hr.un
        refine keyed_tree (s := { s with heap := h'.push (seqObj "list" vs.toArray 0), toks := tk }) (A := X.A.in1.in1) (fun pins' s' H' x v t hm J _ RH tv rx => run_in (E := fun _ _ => False) (Q := fun kv H2 => TV X.prog X.w X.K g H2 (kf t) kv ∧ Ext g H' g H2 ∧ RG X.prog X.w X.K g H2) (us := [x]) (vs := [v]) F (hr.in1.in1) (J.env0.in1.in1) hb J (.cons rx .nil)
      ⟨[t], g, fun d g2 => d = kf t ∧ g2 = g, noX, rfl, .cons tv .nil, RH, hsp t hm _ ⟨rfl, rfl⟩, fun d g2 v2 H2 r2 e2 R2 q2 => by obtain ⟨rfl, rfl⟩ := q2; exact ⟨r2, e2, R2⟩, fun _ _ _ _ _ _ z => z.elim⟩) I2 R fa hoL rv rt hz hK (by show X.A.units + 1 + 1 + dep + dep + 4 < cLine; omega) fun s' H' ts' xs' vs' c J eH RH fa' ho' rv' rt' hp hw => ⟨_, rfl, ?_⟩
        refine wpAny_pure ⟨_, rfl, ?_⟩
        have hlen : xs'.length ≤ sizeLine := by rw [← rt'.len, hp.length_eq]; exact hz
        have J2 : Inv X pins σ (upd H' h'.objs.size (.lst xs')) s' := track (t' := s'.toks) (ch := [h'.objs.size]) J (fun b o _ e => e) (fun b hb => by
          have eb : b = h'.objs.size := by simpa using hb
          subst eb
          exact fa') (by simp) ⟨hlen, vs', c, rv', ho'⟩
        exact ⟨.ref h'.objs.size, _, J2, rfl, kk _ _ _ _ .ref (eH.trans (Ext.newG fa'.1)) (RH.newG fa'.1 (.lst upd_same (rt'.mono (Ext.newG fa'.1).stay))) (hq ts' _ hp hw (RH.fresh fa'.1))⟩
  · exact hh.elim
def qSortK (r : QCK) (t tk : QA) : QE := fun δ g Q => t δ g fun ds g1 => tk δ g1 fun es g2 => r ds es g2 Q
theorem q_callBK {x : Str} {p pos : Pos} {e : Expr} {es : List Expr} {kws : List Keyword} {t tk : QA} {id : String} {ks : List Str} {r : QCK} (hc : CallRK X (.builtin id) ks (lowCK X r)) (hg : Gl X x) (hm : X.mg x = none) (hv : bootBuiltins x = some (.builtin id)) (ha : PA X (e :: es) (lowA X t)) (hk : PK X kws (lowA X tk)) (hn : x ≠ "__name__" := by decide) (hdb : (x == ("__debug__" : Str)) = false := by decide)
    (he : backTo pos (starEach (e :: es) X.env) = (false, eval e X.env) :: backTo pos (starEach es X.env) := by rfl) (hpl : (backTo pos (starEach (e :: es) X.env)).any (·.1) = false := by rfl)
    (hall : (backToKw pos (keywordEach kws X.env)).all (·.1.isSome) = true := by rfl) (hnone : (backToKw pos (keywordEach kws X.env)).any (·.1.isNone) = false := by rfl) (hks : (backToKw pos (keywordEach kws X.env)).filterMap (·.1) = ks := by rfl) :
    PE X (.Call (.Name x p) (e :: es) kws pos) (lowE X (qSortK r t tk)) := by
  refine PE.imp (pe_callBK hc hg hm hv ha hk hn hdb he hpl hall hnone hks) fun σ H Q ⟨δ, g, Q', S, R, h, k⟩ => ?_
  refine ⟨δ, g, _, S, R, h, fun ds g1 vs H1 r1 e1 R1 q1 => ⟨δ, g1, _, S.mono e1.stay, R1, q1, fun es g2 zs H2 r2 e2 R2 q2 => ⟨ds, es, g2, Q', TVs.mono e2.stay r1, r2, R2, q2, k.ext (e1.trans e2)⟩⟩⟩
theorem qk_nil : PK X [] (lowA X qNil) := ⟨fun pos pins s σ H Q I ⟨δ, g, Q', S, R, h, k⟩ => pk_nil.run pos pins s σ H Q I (k [] g [] H .nil Ext.refl R h)⟩
theorem qk_cons {e : Expr} {kws : List Keyword} {nm : Option PySem.Str} {kpos : Pos} {te : QE} {t : QA} (ha : PE X e (lowE X te)) (hr : PK X kws (lowA X t)) : PK X (⟨nm, e, kpos⟩ :: kws) (lowA X (qCons te t)) := ⟨fun pos pins s σ H Q I ⟨δ, g, Q', S, R, h, k⟩ =>
  (pk_cons ha hr).run pos pins s σ H Q I ⟨δ, g, _, S, R, h, fun d g1 v H1 r e R1 q => ⟨δ, g1, _, S.mono e.stay, R1, q, fun ds g2 vs H2 r2 e2 R2 q2 => k _ _ _ _ (.cons (r.mono e2.stay) r2) (e.trans e2) R2 q2⟩⟩⟩
end
end TL
set_option Elab.async false
set_option linter.all false
set_option maxRecDepth 100000
set_option maxHeartbeats 4000000
/-! TL19: sorted(set(xs)), xs a list of ints (after HandS.SetFor). -/
namespace TL
open PySem PySem.Spec L2 PyProof.Rows
section
variable {P : Program} {w : World} {A : Around} {E : Value → Shared → Prop} {s : Shared}
set_option maxRecDepth 100000 in
set_option maxHeartbeats 3200000 in
theorem call_set_listI {l : Addr} {items : Array Value} (ns : List Int) {Q : Value → Shared → Prop} (hh : A.handled = none) (hl : s.heap.IsList l items) (hit : IntsAre items.toList ns) (hb : ns.length + 1 < scanBound)
    (h : ∀ (h' : Heap) (tk c : Nat), SetR w h' s.heap.objs.size (fun j => decide (j ∈ ns)) c → c ≤ ns.length → (∀ b o, s.heap.get? b = some o → h'.get? b = some o) → Q (.ref s.heap.objs.size) { s with heap := h', toks := tk }) :
    wpAny (model P w) A (call (.type "set") [.ref l]) Q E s := by
  have hisz : items.size = ns.length := by
    have q := IntsAre.length hit
    rw [Array.length_toList] at q
    exact q
  obtain ⟨c, tl, hmro⟩ := F.called_set.mro
  have hmade := F.called_set.made
  have hsub := F.called_set.sub
  refine wpAny_call (codeAny_of_tree ?_)
  show wpAny _ _ (callAny (.type "set") _) _ _ _
  refine wpAny_pure ⟨Code.quiet_builtin _ (by decide +kernel), codeAny_builtin F.entry_type_call ?_⟩
  rw [Around.under_plain (weight_type_call_type "set" [.ref l] []) rfl]
  have h1 := F.called_set.notType
  have h2 := F.called_set.canCreate
  have hct := F.typeCall_set_1 (.ref l)
  repeat (any_goals (first | assumption | wp_step))

  refine codeAny_mono (code_set_led1 (.ref l) (E := E) (Q₁ := fun obj s₁ => obj = .ref s.heap.objs.size ∧ s₁ = { s with heap := s.heap.push { cls := .type "set", dict := none, data := .set #[] 0 (.fresh 0 0 (!w.params.followText "set-order")) } }) ⟨rfl, rfl⟩) fun r s₁ hr => ?_
  cases r with
  | error e => exact hr
  | ok fl =>
    cases fl with
    | ret obj =>
      obtain ⟨rfl, rfl⟩ := hr
      have hS : (s.heap.push { cls := .type "set", dict := none, data := .set #[] 0 (.fresh 0 0 (!w.params.followText "set-order")) }).get? s.heap.objs.size = some { cls := .type "set", dict := none, data := .set #[] 0 (.fresh 0 0 (!w.params.followText "set-order")) } := Heap.get?_push_size _ rfl
      have hT : Shared.TypeIs { s with heap := s.heap.push { cls := .type "set", dict := none, data := .set #[] 0 (.fresh 0 0 (!w.params.followText "set-order")) } } (.ref s.heap.objs.size) "set" := ⟨_, hS, rfl⟩
      have hli := F.called_set.init.lookup
      have hbi := F.called_set.init.bind (.ref s.heap.objs.size)
      repeat (any_goals (first | assumption | wp_step))

      refine codeAny_mono (codeAny_call_builtin (R := wants (fun r s₂ => r = .none ∧ ∃ h' tk c, s₂ = { s with heap := h', toks := tk } ∧ SetR w h' s.heap.objs.size (fun j => decide (j ∈ ns)) c ∧ c ≤ ns.length ∧
          (∀ b o, s.heap.get? b = some o → h'.get? b = some o)) E) F.called_set.init.plain F.entry_set_init (check_set_init_1 hT ?_)) fun r₂ s₂ hr₂ => ?_
      · obtain ⟨ol, hol, hcl, nl, hdl⟩ := hl
        obtain ⟨ocls, odict, odata, oslots⟩ := ol
        simp only at hcl hdl
        subst hcl; subst hdl
        have hol' : (s.heap.push { cls := .type "set", dict := none, data := .set #[] 0 (.fresh 0 0 (!w.params.followText "set-order")) }).get? l = some { cls := .type "list", dict := odict, data := .seq items nl, slots := oslots } := Heap.get?_push_of_some _ hol
        have hsls := F.sub_list_set
        have hslf := F.sub_list_frozenset
        have hne : (Value.type "list" == Value.type "dict") = false := by decide
        have hl1 : (s.heap.push { cls := .type "set", dict := none, data := .set #[] 0 (.fresh 0 0 (!w.params.followText "set-order")) }).IsList l items := ⟨_, hol', rfl, nl, rfl⟩
        unfold Builtin.«set.__init__» noKeywords Builtin.Frozenset.updateFrom
        generalize hPI : pyIter = PI
        wp_walk
        subst hPI

        refine wpAny_pyIter_list hl1 ?_
        refine wpAny_bind (wpAny_runValue ?_)
        have hlS : l < s.heap.objs.size := Heap.lt_size hol
        have hh3 : A.in1.in1.in1.handled = none := by simp [hh]
        have hz1 : (s.heap.push { cls := .type "set", dict := none, data := .set #[] 0 (.fresh 0 0 (!w.params.followText "set-order")) }).objs.size = s.heap.objs.size + 1 := Heap.size_push ..
        have hneI : l ≠ (s.heap.push { cls := .type "set", dict := none, data := .set #[] 0 (.fresh 0 0 (!w.params.followText "set-order")) }).objs.size := by
          rw [Heap.size_push]; exact Nat.ne_of_lt (Nat.lt_succ_of_lt hlS)
        have hSf : s.heap.objs.size ∉ [(s.heap.push { cls := .type "set", dict := none, data := .set #[] 0 (.fresh 0 0 (!w.params.followText "set-order")) }).objs.size, l] := by
          rw [Heap.size_push]; simp only [List.mem_cons, List.mem_singleton, List.not_mem_nil, or_false, not_or]
          exact ⟨Nat.ne_of_lt (Nat.lt_succ_self _), Nat.ne_of_gt hlS⟩
        have hval : ∀ (i : Nat) (v : Value), items[i]? = some v → ∃ k t, ns[i]? = some k ∧ v = .int k t := fun i v hv => by
          have hi : i < ns.length := by rw [← hisz]; exact (Array.getElem?_eq_some_iff.mp hv).1
          obtain ⟨t, e⟩ := PyProof.Rows.IntsAre.int_at hit i v (by rw [Array.getElem?_toList]; exact hv)
          refine ⟨ns[i], t, List.getElem?_eq_getElem hi, ?_⟩
          rw [e, List.getD_eq_getElem?_getD, List.getElem?_eq_getElem hi] <;> rfl
        refine set_update_ints ((Walks.list hh3 _ l hneI items).toS) s.heap.objs.size
          hSf ns hisz hb hval (items.size - 0) 0 _ (by omega) (Nat.zero_le _)
          ⟨⟨_, Heap.get?_push_size _ rfl, rfl, rfl⟩, (hl1.push _)⟩ ?hS0 ?hR
        case hS0 =>
          have hget : ((s.heap.push { cls := .type "set", dict := none, data := .set #[] 0 (.fresh 0 0 (!w.params.followText "set-order")) }).push { cls := .type "list_iterator", data := .fields #[.ref l, .int 0 0] }).get? s.heap.objs.size
              = some { cls := .type "set", dict := none, data := .set #[] 0 (.fresh 0 0 (!w.params.followText "set-order")) } := Heap.get?_push_of_some _ hS
          exact ⟨0, Nat.le_refl 0, setR_new_at hget⟩
        case hR =>
          intro s' c' hm hc' hS'
          obtain ⟨h', g2, d', tk', os'⟩ := s'
          have eg : g2 = s.gens := hm.gens
          have ed : d' = s.drawn := hm.drawn
          have eo : os' = s.os := hm.os
          subst eg; subst ed; subst eo
          show wpAny _ _ _ _ _ _
          refine wpAny_pure ?_
          show wpAny _ _ (ret Value.none) _ _ _
          rw [hisz] at hc'
          refine wpAny_pure ⟨rfl, h', tk', c', rfl, hS', hc', fun b o e => ?_⟩
          have hb0 : b < s.heap.objs.size := Heap.lt_size e
          have hb1 : b ≠ s.heap.objs.size := Nat.ne_of_lt hb0
          have hb2 : b ≠ (s.heap.push { cls := .type "set", dict := none, data := .set #[] 0 (.fresh 0 0 (!w.params.followText "set-order")) }).objs.size := by
            rw [Heap.size_push]; exact Nat.ne_of_lt (Nat.lt_succ_of_lt hb0)
          exact hm.heap b o (by simp only [List.mem_cons, List.mem_singleton, List.not_mem_nil, or_false, not_or]; exact ⟨hb1, hb2⟩) (Heap.get?_push_of_some _ (Heap.get?_push_of_some _ e))

      · cases r₂ with
        | error e => exact hr₂
        | ok fl₂ =>
          cases fl₂ with
          | ret r =>
            obtain ⟨rfl, h', tk, c', rfl, hS', hc', hk'⟩ := hr₂
            repeat (any_goals (first | assumption | wp_step))
            exact h _ _ _ hS' hc' hk'
          | _ => exact hr₂.elim
    | _ => exact hr.elim

end
/-- ints as trees -/
def intsT : List T → Option (List Int)
  | [] => some []
  | .int i :: r => (intsT r).map (i :: ·)
  | _ => none
theorem intsT_v {P : Program} {w : World} {K : PySem.W.Frag} {g : G} {H : Hp} : ∀ {ts : List T} {vs : List V} {ns : List Int}, TVs P w K g H ts vs → intsT ts = some ns → vs = ns.map V.int
  | [], _, bs, r, e => by cases r; simp [intsT] at e; subst e; rfl
  | .int b :: ts, _, bs, r, e => by
    cases r with
    | cons r1 r2 =>
      cases r1
      simp only [intsT, Option.map_eq_some_iff] at e
      obtain ⟨cs, e1, rfl⟩ := e
      rw [intsT_v r2 e1]; rfl
  | .non :: _, _, _, _, e => by simp [intsT] at e
  | .bl _ :: _, _, _, _, e => by simp [intsT] at e
  | .str _ :: _, _, _, _, e => by simp [intsT] at e
  | .ref _ :: _, _, _, _, e => by simp [intsT] at e
  | .ty _ :: _, _, _, _, e => by simp [intsT] at e
  | .tup _ :: _, _, _, _, e => by simp [intsT] at e
  | .lst _ :: _, _, _, _, e => by simp [intsT] at e
  | .dct _ :: _, _, _, _, e => by simp [intsT] at e
  | .scr _ :: _, _, _, _, e => by simp [intsT] at e
theorem ints_tvs {P : Program} {w : World} {K : PySem.W.Frag} {g : G} {H : Hp} : ∀ (ns : List Int), TVs P w K g H (ns.map T.int) (ns.map V.int)
  | [] => .nil
  | _ :: ns => .cons .int (ints_tvs ns)
section
variable {X : Cx}
def qSortSet (te : QE) : QE := fun δ g Q => te δ g fun d g1 => match res g1 d with
  | .lst ts => (match intsT ts with
    | some ns => ns.length < 64 ∧ ∀ (out : List Int), out.Pairwise (· < ·) → (∀ k, k ∈ out ↔ k ∈ ns) → Q (.lst (out.map T.int)) g1
    | none => False)
  | _ => False
theorem q_sortSet {e : Expr} {te : QE} {p p2 q pos : Pos} (hc : X.calm = true) (hg : Gl X "sorted") (hm : X.mg "sorted" = none) (hg2 : Gl X "set") (hm2 : X.mg "set" = none) (he : PE X e (lowE X te))
    (na : starEach [e] X.env = (false, eval e X.env) :: starEach [] X.env := by rfl) : PE X (.Call (.Name "sorted" p) [.Call (.Name "set" p2) [e] [] q] [] pos) (lowE X (qSortSet te)) := by
  refine ⟨fun pins s σ H Q I ⟨δ, g, Q', S, R, h, k⟩ => ?_⟩
  refine Call_ (ld_blt I hg hm PyProof.Rows.boot_sorted ?_)
  refine PyProof.Rows.callWith_builtin1 (PyProof.Rows.args_cons ?_ rfl) rfl rfl
  refine Call_ (ld_blt I hg2 hm2 PyProof.Rows.boot_set ?_)
  refine PyProof.Rows.callWith_type1 (PyProof.Rows.args_cons (thn (he.run pins s σ H (fun v H1 => ∃ d g1, TV X.prog X.w X.K g1 H1 d v ∧ Ext g H g1 H1 ∧ RG X.prog X.w X.K g1 H1 ∧ (match res g1 d with
    | .lst ts => (match intsT ts with
      | some ns => ns.length < 64 ∧ ∀ (out : List Int), out.Pairwise (· < ·) → (∀ k, k ∈ out ↔ k ∈ ns) → Q' (.lst (out.map T.int)) g1
      | none => False)
    | _ => False)) I ⟨δ, g, _, S, R, h, fun d g1 v H1 r e R1 q1 => ⟨d, g1, r, e, R1, q1⟩⟩) fun u s1 ⟨x, H1, I1, rx, d, g1, r, e1, R1, q1⟩ => PyProof.Rows.args_nil ?_) na) na rfl
  have qr := res_rv R1 r
  split at q1
  · rename_i ts e2
    rw [e2] at qr
    obtain ⟨a, xs, rfl, ha, hx⟩ := qr.toLst
    split at q1
    · rename_i ns e3
      obtain ⟨h64, hq⟩ := q1
      have := intsT_v hx e3; subst this
      cases rx
      obtain ⟨hl, its, n, rv, pl⟩ := rdl I1 ha
      have hi : s1.heap.IsList a its.toArray := ⟨_, pl.2, rfl, _, rfl⟩
      have hit : IntsAre its.toArray.toList ns := ints_of_vals rv
      refine call_set_listI ns (I1.ok.hd hc) hi hit (by unfold scanBound; omega) fun h' tk c R2 hcn kp => ?_
      refine PyProof.Rows.args_nil ?_
      have I2 : Inv X pins σ H1 { s1 with heap := h', toks := tk } := I1.kept kp
      refine sorted_set (s := { s1 with heap := h', toks := tk }) R2 (I2.ok.hd hc) (by omega) fun s' p out c' ms kk gg oo hp hgt hi' hs hm' hl' => ?_
      have hlen : (ms.map V.int).length ≤ sizeLine := by rw [List.length_map, hl', sizeLine_eq]; omega
      have hn : H1 p = none := I2.hok.fresh hp
      have J : Inv X pins σ (upd H1 p (.lst (ms.map V.int))) s' := I2.call' (ch := []) oo (Un.laid kk hp hn) (I2.hok.laid kk hp ⟨hlen, out.toList, c', vals_of_ints hi', hgt⟩) (by rw [gg]; exact I2.bare) (fun _ z => nomatch z)
      refine ⟨.ref p, _, J, rfl, k _ _ _ _ (.lst (R1.fresh hn) (.inl upd_same) (ints_tvs ms)) (e1.trans (Ext.new hn)) (R1.new hn) (hq ms hs fun j => ?_)⟩
      rw [hm' j, decide_eq_true_eq]
    · exact q1.elim
  · exact q1.elim
end
end TL
set_option Elab.async false
set_option linter.all false
set_option maxRecDepth 100000
set_option maxHeartbeats 4000000
/-! TL20: a def made within a def, handed to sorted as its key. -/
namespace TL
open PySem PySem.Spec L2 PyProof.Rows PySem.W SrtO LamX NdefX

theorem rd_code {P : Program} {w : World} {H : Hp} {h : Heap} {c : Addr} {q : PySem.Str} (hok : HOk P w H h) (e : Rd H c (CodeO c q)) : h.CodeRec (.ref c) q := by
  have z := e.ok hok
  obtain ⟨⟨oc, vs, t, h1, h2, h3⟩, _, _⟩ := z
  exact ⟨c, oc, vs, t, rfl, h1, h2, h3⟩
section
variable {X : Cx} {pins : List (Addr × Obj)} {σ : L2.St} {H : Hp} {s : Shared} {g : G}
/-- the def's object is made -/
theorem ndef_mk {nm : Nat → Nat → PySem.Str} {c P : Addr} {name : PySem.Str} {params : Arguments} {body : List Stmt} {scope : Scope} {pos : Pos} {E : Value → Shared → Prop} {Q : Value → Shared → Prop} (I : Inv X pins σ H s) (R : RG X.prog X.w X.K g H) (TB : TabB X.base X.mg c P) (hcode : X.env.code = .ref c)
    (gP : g P = some (.tbl nm)) (hn : nm pos.line pos.col = X.env.qual ++ name) (hfree : ∀ y ∈ scope.names, y.2 = .free → ∃ c, X.env.cells.lookup y.1 = some c)
    (h : ∀ (f c' : Addr) (H1 : Hp) (s' : Shared), Inv X pins σ H1 s' → Ext g H (gput g f (.fn ⟨name, X.env.qual ++ name, params, body, scope, cloFrom X.env.cells scope.names [], c'⟩)) H1 → RG X.prog X.w X.K (gput g f (.fn ⟨name, X.env.qual ++ name, params, body, scope, cloFrom X.env.cells scope.names [], c'⟩)) H1 → H f = none → Q (.ref f) s') :
    wpAny (model X.prog X.w) X.A (makeFunction name (X.env.qual ++ name) params (.stmts body) scope X.env [] [] [] pos pos.line) Q E s := by
  cases R P _ gP with
  | @tbl _ ps hP ht ha =>
    have bP : s.heap.BuiltinsAt X.mg P := TB.bm.keeps I.bk
    have hP' : s.heap.get? P = some { cls := .none, data := .fields ps } := I.hok P _ hP
    cases hc : codeAmong pos ps.toList with
    | none =>
      refine PySem.W.makeFunction_K (mg := X.mg) (c := c) (P := P) (ps := ps) (closure_ok hfree) I.ok.glob (I.mod.glob.keeps I.bk) hcode (TB.code.keeps I.bk) hP' ht hc TB.gP bP fun c' ctv doc h' tk hx hge hlt hrec htb => ?_
      obtain ⟨c2, oc, vs, t, e2, hoc, hd, hv⟩ := hrec
      cases e2
      have nC : H c' = none := I.hok.fresh hge
      have I1 := inv_table (t' := tk) (more := #[rawInt pos.line, rawInt pos.col, .ref c']) (h' := h') I hP (fun b o hb e => hx b o hb e) htb hge ⟨oc, vs, t, hoc, hd, hv⟩
      have eL : (ps ++ #[rawInt pos.line, rawInt pos.col, .ref c']).toList = ps.toList ++ [rawInt pos.line, rawInt pos.col, .ref c'] := by simp
      have nPc : P ≠ c' := ne_of_none hP nC
      have nF := I1.hok.fresh (Nat.le_refl _)
      have I2 := inv_fn (F := ⟨name, X.env.qual ++ name, params, body, scope, cloFrom X.env.cells scope.names [], c'⟩) (t' := tk) (doc := doc) (pm := (X.mg "__name__").getD .none) (ctv := ctv) I1 rfl
      have gF : H h'.objs.size = none := I.hok.fresh (Nat.le_trans hge (Nat.le_of_lt hlt))
      have nFc : h'.objs.size ≠ c' := Nat.ne_of_gt hlt
      have same : ∀ b, b ≠ P → H b ≠ none → upd (upd (upd H P (.tbl (ps ++ #[rawInt pos.line, rawInt pos.col, .ref c']))) c' (CodeO c' (X.env.qual ++ name))) h'.objs.size (FnO h'.objs.size ⟨name, X.env.qual ++ name, params, body, scope, cloFrom X.env.cells scope.names [], c'⟩) b = H b := fun b hb hn => by
        rw [upd_ne (fun z => hn (by rw [z]; exact gF)), upd_ne (fun z => hn (by rw [z]; exact nC)), upd_ne hb]
      have gc : g c' = none := R.fresh nC
      generalize hH1 : upd (upd (upd H P (.tbl (ps ++ #[rawInt pos.line, rawInt pos.col, .ref c']))) c' (CodeO c' (X.env.qual ++ name))) h'.objs.size (FnO h'.objs.size ⟨name, X.env.qual ++ name, params, body, scope, cloFrom X.env.cells scope.names [], c'⟩) = H1 at I2 same
      have hC1 : Rd H1 c' (CodeO c' (X.env.qual ++ name)) := .inl (by rw [← hH1, upd_ne nFc.symm, upd_same])
      have eE : Ext g H (gput g h'.objs.size (.fn ⟨name, X.env.qual ++ name, params, body, scope, cloFrom X.env.cells scope.names [], c'⟩)) H1 := fun b o h1 h2 =>
        ⟨by rw [gput_ne (ne_of_none h2 gF)]; exact h1, .inl (by rw [same b (fun z => by subst z; rw [gP] at h1; cases h1) (by rw [h2]; simp)]; exact h2)⟩
      refine h h'.objs.size c' _ _ I2 eE (fun b o hb => ?_) gF
      by_cases hbF : b = h'.objs.size
      · subst hbF
        rw [gput_same] at hb
        cases hb
        exact .fn (by rw [← hH1]; exact upd_same) (by rw [gput_ne nFc.symm]; exact gc) hC1
      · rw [gput_ne hbF] at hb
        by_cases hbP : b = P
        · subst hbP
          rw [gP] at hb
          cases hb
          refine .tbl (ps := ps ++ #[rawInt pos.line, rawInt pos.col, .ref c']) (by rw [← hH1, upd_ne (ne_of_none hP gF), upd_ne nPc, upd_same]) (by rw [eL]; exact PySem.TriplesOk_snoc _ _ _ _ ht) fun p' cv hcv => ?_
          rw [eL] at hcv
          rcases among_app2 _ ht hcv with z | ⟨z, z1, z2⟩
          · obtain ⟨c0, e1, e2, e3⟩ := ha p' cv z
            obtain ⟨q1, q2⟩ := eE.stay c0 _ e2 e3
            exact ⟨c0, e1, q1, q2⟩
          · refine ⟨c', z, by rw [gput_ne nFc.symm]; exact gc, ?_⟩
            rw [← z1, ← z2, hn]
            exact hC1
        · exact (R b o hb).mono eE.stay (same b hbP (R.ne hb))
    | some cv =>
      obtain ⟨c', e, gc, hco⟩ := ha pos cv hc
      subst e
      rw [hn] at hco
      refine PySem.W.makeFunction_hit (mg := X.mg) (c := c) (P := P) (ps := ps) (closure_ok hfree) I.ok.glob (I.mod.glob.keeps I.bk) hcode (TB.code.keeps I.bk) hP' ht hc bP fun ctv doc h' tk hx hsz => ?_
      have I1 : Inv X pins σ H { s with heap := h', toks := tk } := I.kept hx
      have nF : H h'.objs.size = none := I1.hok.fresh (Nat.le_refl _)
      have I2 := inv_fn (F := ⟨name, X.env.qual ++ name, params, body, scope, cloFrom X.env.cells scope.names [], c'⟩) (t' := tk) (doc := doc) (pm := (X.mg "__name__").getD .none) (ctv := ctv) I1 rfl
      have hne : c' ≠ h'.objs.size := fun z => by
        rcases hco with q | ⟨o, q⟩ <;> rw [z, nF] at q <;> cases q
      have eE : Ext g H (gput g h'.objs.size (.fn ⟨name, X.env.qual ++ name, params, body, scope, cloFrom X.env.cells scope.names [], c'⟩)) (upd H h'.objs.size (FnO h'.objs.size ⟨name, X.env.qual ++ name, params, body, scope, cloFrom X.env.cells scope.names [], c'⟩)) := Ext.newG nF
      exact h h'.objs.size c' _ _ I2 eE (R.newG nF (.fn upd_same (by rw [gput_ne hne]; exact gc) (eE.stay c' _ gc hco).2)) nF
/-- the closure called from within a built-in of the frame that made it -/
theorem run_clo {A : Around} {E : Value → Shared → Prop} {k : Nat} {f : Addr} {F : NF} {N ps fr : List PySem.Str} {js : List Nat} {Q : VK} {us : List Value} {vs : List V} {t : L2.TS} (S : NScope N ps fr F.scope) (hb : ∀ (doc pm ctv : Value) (us : List Value), us.length = ps.length → bindArgs (F.fd doc pm ctv) ⟨us, []⟩ = pure (ps.zip us))
    (hr : Room (k + 1) A) (e0 : Env0 X.prog X.w X.K X.mg X.base A X.stack s H) (I : Inv X pins σ H s) (hf : H f = some (FnO f F)) (hc : Rd H F.c (CodeO F.c F.qual)) (cp : Caps X F.cl fr js) (r : Vals vs us) (hl : vs.length = ps.length)
    (ht : Room k (A.deeper (envF F f s.heap.objs.size)) → PSs (ncx CX0 X.prog X.w X.K X.mg X.base N F f A X.stack s H fun _ _ _ => False) F.body t) (hq : t { nx := fun _ H' => Q .non H', rt := Q } (startF N vs (js.map (slotAt σ))) H) : wpAny (model X.prog X.w) A (call (.ref f) us) (EP X pins σ Q) E s := by
  have C : CellsAt F.cl fr (js.map (slotAt σ)) s.heap H := cells_of I cp
  have lim : s.heap.NoLimit := e0.mod.nolimit.keeps fun b o e => (e0.bs b o e).1
  obtain ⟨od, sl, doc, pm, ctv, ho⟩ := fnO_at e0.hok hf
  have rc : codeAny (model X.prog X.w) A (.call (.ref f) ⟨us, []⟩) (CR CX0 X.stack X.prog X.w H s Q fun _ _ _ => False) s := by
    refine codeAny_call_function hr.depth ho rfl S.co S.gen rfl (rd_code e0.hok hc) ?_
    rw [hb doc pm ctv us (by rw [← r.length]; exact hl)]
    refine wpAny_pure (wpAny_newFunctionEnv S.nocell (fun ⟨n, _⟩ hy => S.par n (List.of_mem_zip hy).1) (fun h₁ hns hsb => ⟨lim.fresh _ hsb, ?_⟩) S.kind)
    show codeAny _ _ (.func F.body (envF F f s.heap.objs.size)) _ _
    refine codeAny_func ?_
    have kp : ∀ b o, s.heap.get? b = some o → h₁.get? b = some o := fun b o e => hsb.extBut b o (Nat.ne_of_lt (Heap.lt_size e)) (Heap.get?_push_of_some _ e)
    have J : Inv (ncx CX0 X.prog X.w X.K X.mg X.base N F f A X.stack s H fun _ _ _ => False) [] (startF N vs (js.map (slotAt σ))) H { s with heap := h₁, toks := s.toks + (ps.zip us).length } := inv_startN S hr.hd e0 hl r C hns kp
    refine wpAny_mono ((ht (hr.deeper _)).run [] _ (startF N vs (js.map (slotAt σ))) H _ J hq) (fun fl s' hs => ?_) fun e s' hs => hs
    have fin : ∀ {σ' : L2.St} {H' : Hp} {v : V} {u : Value}, Inv (ncx CX0 X.prog X.w X.K X.mg X.base N F f A X.stack s H fun _ _ _ => False) [] σ' H' s' → L2.RelV v u → Q v H' → CE X.stack X.prog X.w H s Q u s' :=
      fun {σ' H' v u} J rv q => ⟨v, H', J.os, J.bare, J.base, J.hok, rv, q⟩
    cases fl with
    | ret u =>
      obtain ⟨v, σ', H', J, rv, q⟩ := hs
      exact fin J rv q
    | next =>
      obtain ⟨σ', H', J, q⟩ := hs
      exact fin (v := V.non) (u := Value.none) J rfl q
    | brk =>
      obtain ⟨_, _, _, q⟩ := hs
      exact False.elim q
    | cont =>
      obtain ⟨_, _, _, q⟩ := hs
      exact False.elim q
  refine wpAny_call (codeAny_mono rc fun r s' hq => ?_)
  cases r with
  | error e => exact False.elim hq
  | ok fl =>
    cases fl with
    | ret u => exact I.after hq
    | next => exact False.elim hq
    | brk => exact False.elim hq
    | cont => exact False.elim hq
end

/-! ### def f(..): ..; return sorted(x, key=f) -/
section
variable {X : Cx}
/-- the captured names' trees -/
def caps (δ : TSt) (js : List Nat) : List (Option T) := js.map (sl δ)
def startC (N : List PySem.Str) (d : T) (ws : List (Option T)) : TSt := some d :: (ws ++ List.replicate (N.length - 1 - ws.length) none)
theorem startC_r {P : Program} {w : World} {K : PySem.W.Frag} {g : G} {H : Hp} {N : List PySem.Str} {d : T} {v : V} {δ : TSt} {σ : L2.St} {js : List Nat} (S : StR P w K g H δ σ) (r : TV P w K g H d v) : StR P w K g H (startC N d (caps δ js)) (startF N [v] (js.map (slotAt σ))) := by
  refine ⟨by simp [startC, startF, caps], fun i t e => ?_⟩
  cases i with
  | zero =>
    simp [startC] at e
    subst e
    exact ⟨v, rfl, r⟩
  | succ i =>
    simp only [startC, List.getElem?_cons_succ] at e
    show ∃ v', ([some v] ++ (js.map (slotAt σ) ++ List.replicate (N.length - [v].length - (js.map (slotAt σ)).length) none))[i + 1]? = some (some v') ∧ _
    simp only [List.singleton_append, List.getElem?_cons_succ]
    by_cases hi : i < js.length
    · rw [List.getElem?_append_left (by simpa [caps] using hi)] at e
      rw [List.getElem?_append_left (by simpa using hi)]
      unfold caps at e
      rw [List.getElem?_map, List.getElem?_eq_getElem hi] at e
      rw [List.getElem?_map, List.getElem?_eq_getElem hi]
      simp only [Option.map_some, Option.some.injEq] at e
      obtain ⟨v', h1, h2⟩ := S.2 _ _ (sl_get e)
      exact ⟨v', by simp only [Option.map_some, slotAt_of h1], h2⟩
    · rw [List.getElem?_append_right (by simpa [caps] using hi), List.getElem?_replicate] at e
      split at e <;> cases e
/-- the reading: P the table, q the def's full name, i the slot of its name, js the captured names' slots -/
def qNdSort (P : Addr) (q : PySem.Str) (line col : Nat) (i : Nat) (N : List PySem.Str) (js : List Nat) (te : QE) (tb : QS) : QS := fun D δ g => (∃ nm, g P = some (.tbl nm) ∧ nm line col = q) ∧ i < δ.length ∧ ∀ (f : Addr) (F : NF), g f = none →
  te (δ.set i (some (.ref f))) (gput g f (.fn F)) fun d g1 => g1 f = some (.fn F) ∧ ∃ ts kf dep, itemsT g1 d = some ts ∧ ts.length ≤ sizeLine ∧ (∀ t ∈ ts, ∀ Q : K1, Q (kf t) g1 → tb { nx := fun _ g' => Q .non g', rt := Q } (startC N t (caps (δ.set i (some (.ref f))) js)) g1) ∧ KeysOk dep kf ts ∧ dep ≤ 60 ∧
    ∀ ts' p, ts'.Perm ts → (ts'.Pairwise fun x y => ltB (kf y) (kf x) = false) → g1 p = none → D.rt (.ref p) (gput (gdel g1 f) p (.lst ts'))
/-- a call with keywords, its promise told of the frame -/
theorem pe_callBKs {x : PySem.Str} {p pos : Pos} {e : Expr} {es : List Expr} {kws : List Keyword} {t tk : TA} {id : String} {ks : List PySem.Str} {r : L2.St → List V → List V → Hp → VK → Prop}
    (hc : ∀ (pins : List (Addr × Obj)) (s : Shared) (σ : L2.St) (H : Hp) (xs zs : List V) (us ws : List Value) (Q : VK), Inv X pins σ H s → Vals xs us → Vals zs ws → r σ xs zs H Q → wpAny (model X.prog X.w) X.A (call (.builtin id) us (ks.zip ws)) (EP X pins σ Q) X.xe s)
    (hg : Gl X x) (hm : X.mg x = none) (hv : bootBuiltins x = some (.builtin id)) (ha : PA X (e :: es) t) (hk : PK X kws tk) (hn : x ≠ "__name__" := by decide) (hdb : (x == ("__debug__" : PySem.Str)) = false := by decide)
    (he : backTo pos (starEach (e :: es) X.env) = (false, eval e X.env) :: backTo pos (starEach es X.env) := by rfl) (hpl : (backTo pos (starEach (e :: es) X.env)).any (·.1) = false := by rfl)
    (hall : (backToKw pos (keywordEach kws X.env)).all (·.1.isSome) = true := by rfl) (hnone : (backToKw pos (keywordEach kws X.env)).any (·.1.isNone) = false := by rfl) (hks : (backToKw pos (keywordEach kws X.env)).filterMap (·.1) = ks := by rfl) :
    PE X (.Call (.Name x p) (e :: es) kws pos) (fun σ H Q => t σ H fun vs H1 => tk σ H1 fun zs H2 => r σ vs zs H2 Q) := by
  refine ⟨fun pins s σ H Q I h => ?_⟩
  refine wpAny_Call_Name_kw (ld_blt I hg hm hv ?_ hn hdb)
  refine PyProof.Rows.callWith_kw (thn (ha.run pos pins s σ H _ I h) fun us s1 ⟨vs, H1, I1, r1, q1⟩ => thn (hk.run pos pins s1 σ H1 _ I1 q1) fun ws s2 ⟨zs, H2, I2, r2, q2⟩ => ?_) he hpl hall hnone
  rw [hks]
  exact hc pins s2 σ H2 vs zs us ws Q I2 r1 r2 q2
theorem clo_sort {pins : List (Addr × Obj)} {σ : L2.St} {H : Hp} {s : Shared} {g : G} {f : Addr} {F : NF} {δ : TSt} {d : T} {dv : V} {u : Value} {k dep : Nat} {N ps fr : List PySem.Str} {js : List Nat} {tb : QS} {ts : List T} {kf : T → T} {Q' : K1} {Q : VK}
    (S : NScope N ps fr F.scope) (hps : ps.length = 1) (hb : ∀ (doc pm ctv : Value) (us : List Value), us.length = ps.length → bindArgs (F.fd doc pm ctv) ⟨us, []⟩ = pure (ps.zip us)) (hr : Room (k + 3) X.A) (hc : X.calm = true) (cp : X.Ok → Caps X F.cl fr js)
    (hbody : ∀ (A : Around) (outer : List Env) (s : Shared) (H : Hp) (E : XK), Room k (A.deeper (envF F f s.heap.objs.size)) → PSs (ncx CX0 X.prog X.w X.K X.mg X.base N F f A outer s H E) F.body (lowS X tb))
    (I : Inv X pins σ H s) (SS : StR X.prog X.w X.K g H δ σ) (rd : TV X.prog X.w X.K g H d dv) (ru : L2.RelV dv u) (R : RG X.prog X.w X.K g H) (gf : g f = some (.fn F)) (hit : itemsT g d = some ts) (hz : ts.length ≤ sizeLine)
    (hsp : ∀ t ∈ ts, ∀ Q : K1, Q (kf t) g → tb { nx := fun _ g' => Q .non g', rt := Q } (startC N t (caps δ js)) g) (hK : KeysOk dep kf ts) (hdep : dep ≤ 60)
    (hq : ∀ ts' p, ts'.Perm ts → (ts'.Pairwise fun x y => ltB (kf y) (kf x) = false) → g p = none → Q' (.ref p) (gput (gdel g f) p (.lst ts'))) (kk : KE X (gdel g f) H Q' Q) :
    wpAny (model X.prog X.w) X.A (call (.builtin "sorted") [u] [(PySem.Str.ofString "key", .ref f)]) (EP X pins σ Q) X.xe s := by
  have hfH : H f = some (FnO f F) := by cases R f _ gf with | fn a1 _ _ => exact a1
  refine call_function_entry_kw kind_sorted plain_sorted entry_sorted (PyProof.Rows.ksk_s1 _ _) ?_
  unfold Builtin.«sorted»
  refine wpAny_bind (m := checkCount "sorted" 1 1 _) (wpAny_pure ?_)
  refine wpAny_bind (collect_items (A := X.A.in1) (I.ok.hd hc) I R rd ru hit hz fun h' tk xs vs kp rv rt => ?_)
  have hvl : vs.length = ts.length := by rw [← rv.length, ← rt.len]
  refine wpAny_bind (wpAny_newList ?_ (by show vs.length ≤ _; omega))
  have I1 : Inv X pins σ H { s with heap := h', toks := tk } := I.kept kp
  have I2 : Inv X pins σ H { s with heap := h'.push (seqObj "list" vs.toArray 0), toks := tk } := I1.kept (t' := tk) fun b o e => Heap.get?_push_of_some _ e
  have fa : FpOk X pins H h'.objs.size := I1.fpOk (Nat.le_refl _) (I1.hok.fresh (Nat.le_refl _))
  have hoL : (h'.push (seqObj "list" vs.toArray 0)).get? h'.objs.size = some (seqObj "list" vs.toArray 0) := Heap.get?_push_size _ rfl
  refine wpAny_bind (wpAny_holding (wpAny_call_entry_kw slot_list_sort ⟨_, hoL, rfl⟩ entry_list_sort ?_ (PyProof.Rows.ksk_l1 _ _)))
  rw [ksk_t1]
  have hu := hr.un
  refine keyed_tree (s := { s with heap := h'.push (seqObj "list" vs.toArray 0), toks := tk }) (A := X.A.in1.in1) (fun pins' s' H' x v t hm J eH RH tv rx => ?_) I2 R fa hoL rv rt hz hK (by show X.A.units + 1 + 1 + dep + dep + 4 < cLine; omega) fun s' H' ts' xs' vs' c J eH RH fa' ho' rv' rt' hp hw => ⟨_, rfl, ?_⟩
  · cases RH f _ gf with
    | fn a1 a2 a3 =>
      refine run_clo (F := F) (js := js) (N := N) (ps := ps) (fr := fr) (k := k) (t := lowS X tb) S hb (hr.in1.in1) (J.env0.in1.in1) J a1 a3 (cp J.ok) (.cons rx .nil) (by rw [hps]; rfl) (fun hrm => hbody _ _ _ _ _ hrm) ?_
      refine ⟨startC N t (caps δ js), g, _, startC_r (SS.mono eH.stay) tv, RH, hsp t hm (fun d g2 => d = kf t ∧ g2 = g) ⟨rfl, rfl⟩, ⟨fun δ1 g1 σ1 H1 S1 e1 R1 q1 => ?_, fun d1 g1 v1 H1 r1 e1 R1 q1 => ?_, fun _ _ _ _ _ _ _ z => z.elim, fun _ _ _ _ _ _ _ z => z.elim⟩⟩
      · obtain ⟨q1, rfl⟩ := q1
        exact ⟨q1 ▸ .non, e1, R1⟩
      · obtain ⟨rfl, rfl⟩ := q1
        exact ⟨r1, e1, R1⟩
  · refine wpAny_pure ⟨_, rfl, ?_⟩
    have hlen : xs'.length ≤ sizeLine := by rw [← rt'.len, hp.length_eq]; exact hz
    have J2 : Inv X pins σ (upd H' h'.objs.size (.lst xs')) s' := track (t' := s'.toks) (ch := [h'.objs.size]) J (fun b o _ e => e) (fun b hb => by
      have eb : b = h'.objs.size := by simpa using hb
      subst eb
      exact fa') (by simp) ⟨hlen, vs', c, rv', ho'⟩
    have RD : RG X.prog X.w X.K (gdel g f) H' := RH.sub sub_del
    have eD : Ext (gdel g f) H (gdel g f) H' := fun b o h1 h2 => by
      by_cases hb : b = f
      · subst hb
        rw [hfH] at h2
        cases h2
        have : H' b = some (FnO b F) := by cases RH b _ gf with | fn a1 _ _ => exact a1
        exact ⟨h1, .inl this⟩
      · rw [gdel_ne hb] at h1
        exact ⟨by rw [gdel_ne hb]; exact (eH b o h1 h2).1, (eH b o h1 h2).2⟩
    have rtD : TVs X.prog X.w X.K (gdel g f) H' ts' xs' := rt'.mono (Ext.stay (Sub.ext sub_del))
    exact ⟨.ref h'.objs.size, _, J2, rfl, kk _ _ _ _ .ref (eD.trans (Ext.newG fa'.1)) (RD.newG fa'.1 (.lst upd_same (rtD.mono (Ext.newG fa'.1).stay))) (hq ts' _ hp hw (RH.fresh fa'.1))⟩
theorem qss_ndefSort {c P : Addr} {name : PySem.Str} {params : Arguments} {body : List Stmt} {scope : Scope} {pos p1 p2 p3 p4 p5 : Pos} {i k : Nat} {e : Expr} {te : QE} {tb : QS} {N ps fr : List PySem.Str} {js : List Nat} (TB : TabB X.base X.mg c P) (hcode : X.env.code = .ref c)
    (hfree : ∀ y ∈ scope.names, y.2 = .free → X.env.scope.names.lookup y.1 = some .cell ∨ X.env.scope.names.lookup y.1 = some .free) (hd0 : params.defaults = []) (hk0 : params.kw_defaults = []) (ha : annTrees params none X.env = [])
    (hN : X.N.Nodup) (hi : X.N[i]? = some name) (hx : Loc X.env.scope name) (hf : X.fn name = true ∨ X.env.scope.names.lookup name = some .local)
    (hnd : (name == ("__debug__" : PySem.Str)) = false) (hncd : (name == ("__classdict__" : PySem.Str)) = false)
    (S : NScope N ps fr scope) (hps : ps.length = 1) (hb : ∀ (q : PySem.Str) (cl : List (PySem.Str × Addr)) (doc pm cv ctv : Value) (us : List Value), us.length = ps.length → bindArgs (PySem.W.fnX name q params body scope cl .none .none doc pm none cv ctv) ⟨us, []⟩ = pure (ps.zip us))
    (hfr : ∀ y ∈ fr, (y, NameKind.free) ∈ scope.names) (hjs : js.map (fun j => X.N[j]?) = fr.map some) (hr : Room (k + 3) X.A) (hc : X.calm = true) (hg : Gl X "sorted") (hm : X.mg "sorted" = none)
    (he : PE X e (lowE X te)) (hbody : ∀ (F : NF) (f : Addr) (A : Around) (outer : List Env) (s : Shared) (H : Hp) (E : XK), F.scope = scope → F.body = body → Room k (A.deeper (envF F f s.heap.objs.size)) → PSs (ncx CX0 X.prog X.w X.K X.mg X.base N F f A outer s H E) body (lowS X tb))
    (h1 : starEach [e] X.env = (false, eval e X.env) :: starEach [] X.env) (h2 : backTo p4 (starEach [e] X.env) = (false, eval e X.env) :: backTo p4 (starEach [] X.env)) (h3 : (backTo p4 (starEach [e] X.env)).any (·.1) = false) :
    PSs X [.FunctionDef name params body [] none [] scope none name pos, .Return (some (.Call (.Name "sorted" p1) [e] [⟨some "key", .Name name p2, p3⟩] p4)) p5] (lowS X (qNdSort P (X.env.qual ++ name) pos.line pos.col i N js te tb)) := by
  have hfrs : ∀ {ok : X.Ok}, ∀ y ∈ scope.names, y.2 = .free → ∃ c, X.env.cells.lookup y.1 = some c := fun {ok} y hy e => (hfree y hy e).elim (fun z => ok.has _ (.inl z)) fun z => ok.has _ (.inr z)
  have hvis : Vis X.env.scope name := hx.elim .inl fun z => .inr (.inl z)
  let mk : Addr → NF := fun c' => ⟨name, X.env.qual ++ name, params, body, scope, cloFrom X.env.cells scope.names [], c'⟩
  have sDef : PS X (.FunctionDef name params body [] none [] scope none name pos) (fun D σ H => ∃ g nm, RG X.prog X.w X.K g H ∧ g P = some (.tbl nm) ∧ nm pos.line pos.col = X.env.qual ++ name ∧
      ∀ f c' H1, Ext g H (gput g f (.fn (mk c'))) H1 → RG X.prog X.w X.K (gput g f (.fn (mk c'))) H1 → H f = none → D.nx (σ.set i (some (.ref f))) H1) := by
    refine ⟨fun pins s σ H D I ⟨g, nm, R, gP, hn, h⟩ => ?_⟩
    have hq : qualnameIn X.env name name = X.env.qual ++ name := by
      have hk : X.env.kindOf name = some .local ∨ X.env.kindOf name = some .cell := hx
      unfold qualnameIn
      rcases hk with k | k <;> rw [k] <;> first | rfl | exact if_neg (by decide)
    refine PySem.W.nestDef_K hd0 hk0 ha ?_
    rw [hq]
    refine ndef_mk I R TB hcode gP hn (hfrs (ok := I.ok)) fun f c' H1 s' I1 eE R1 f0 => ?_
    exact store_ok I1 hN hi hx (v := .ref f) rfl (fun s'' J => ⟨_, H1, J, h f c' H1 eE R1 f0⟩) hf
  have eSort := pe_callBKs (X := X) (x := "sorted") (p := p1) (pos := p4) (e := e) (es := []) (kws := [⟨some "key", .Name name p2, p3⟩]) (id := "sorted") (ks := [PySem.Str.ofString "key"])
    (r := fun σ xs zs H Q => ∃ (f c' : Addr) (δ : TSt) (d : T) (dv : V) (g : G) (Q' : K1) (ts : List T) (kf : T → T) (dep : Nat), xs = [dv] ∧ zs = [.ref f] ∧ StR X.prog X.w X.K g H δ σ ∧ TV X.prog X.w X.K g H d dv ∧ RG X.prog X.w X.K g H ∧ g f = some (.fn (mk c')) ∧ itemsT g d = some ts ∧ ts.length ≤ sizeLine ∧
      (∀ t ∈ ts, ∀ Q : K1, Q (kf t) g → tb { nx := fun _ g' => Q .non g', rt := Q } (startC N t (caps δ js)) g) ∧ KeysOk dep kf ts ∧ dep ≤ 60 ∧
      (∀ ts' p, ts'.Perm ts → (ts'.Pairwise fun x y => ltB (kf y) (kf x) = false) → g p = none → Q' (.ref p) (gput (gdel g f) p (.lst ts'))) ∧ KE X (gdel g f) H Q' Q)
    (fun pins s σ H xs zs us ws Q I rx rz h => by
      obtain ⟨f, c', δ, d, dv, g, Q', ts, kf, dep, rfl, rfl, SS, rd, R, gf, hit, hz, hsp, hK, hdep, hq, kk⟩ := h
      obtain ⟨u, rfl, ru⟩ := L2.Vals.one rx
      obtain ⟨w, rfl, rw'⟩ := L2.Vals.one rz
      cases rw'
      exact clo_sort (F := mk c') S hps (fun doc pm ctv us hl => hb _ _ doc pm _ ctv us hl) hr hc (fun ok => Caps.made ok hfree hfr hjs) (fun A outer s H E hrm => hbody (mk c') f A outer s H E rfl rfl hrm) I SS rd ru R gf hit hz hsp hK hdep hq kk)
    hg hm PyProof.Rows.boot_sorted (pa_cons he pa_nil h1) (pk_cons (pe_var hi hvis hnd hncd) pk_nil) (by decide) (by decide) h2 h3 (by rfl) (by rfl) (by rfl)
  refine PSs.imp (pss_cons sDef (pss_one (ps_ret eSort))) fun D σ H ⟨δ, g, D', SS, R, ⟨⟨nm, gP, hn⟩, hil, h⟩, k'⟩ => ?_
  refine ⟨g, nm, R, gP, hn, fun f c' H1 e2 R2 f0 => ?_⟩
  have g0 : g f = none := R.fresh f0
  have SS2 : StR X.prog X.w X.K (gput g f (.fn (mk c'))) H1 (δ.set i (some (.ref f))) (σ.set i (some (.ref f))) := (SS.mono e2.stay).set .ref
  refine ⟨δ.set i (some (.ref f)), _, _, SS2, R2, h f (mk c') g0, fun d g1 v H2 r2 e3 R3 q => ?_⟩
  obtain ⟨gf, ts, kf, dep, hit, hz, hsp, hK, hdep, hq⟩ := q
  refine ⟨.ref f, ?_, f, c', δ.set i (some (.ref f)), d, v, g1, _, ts, kf, dep, rfl, rfl, SS2.mono e3.stay, r2, R3, gf, hit, hz, hsp, hK, hdep, hq, ?_⟩
  · rw [List.getElem?_set_self (by rw [← SS.1]; exact hil)]
  · exact k'.rt.ext ((e2.trans e3).trans (Sub.ext sub_del))
end
end TL
set_option Elab.async false
set_option linter.all false
set_option maxRecDepth 100000
set_option maxHeartbeats 4000000
/-! TL21: sorted(x, key=lambda y: ..). -/
namespace TL
open PySem PySem.Spec L2 PyProof.Rows PySem.W SrtO LamX NdefX

section
variable {X : Cx} {pins : List (Addr × Obj)} {σ : L2.St} {H : Hp} {s : Shared} {g : G}
theorem inv_lam {L : LF} {t' : Nat} {pm ctv : Value} (I : Inv X pins σ H s) :
    Inv X pins σ (upd H s.heap.objs.size (lamO s.heap.objs.size L)) { s with heap := s.heap.push (PySem.W.kla_obj "<lambda>" L.qual L.params L.body L.scope L.cl pm L.c ctv), toks := t' } := by
  refine I.laid (a := s.heap.objs.size) (fun b u e => Heap.get?_push_of_some _ e) (Nat.le_refl _) ?_
  have e : (s.heap.push (PySem.W.kla_obj "<lambda>" L.qual L.params L.body L.scope L.cl pm L.c ctv)).get? s.heap.objs.size = some (PySem.W.kla_obj "<lambda>" L.qual L.params L.body L.scope L.cl pm L.c ctv) := Heap.get?_push_size _ rfl
  exact ⟨⟨pm, ctv, e⟩, ⟨_, e⟩, fun h1 h2 ⟨p, t, z⟩ st => ⟨p, t, st _ z⟩⟩
theorem lam_mk {nm : Nat → Nat → PySem.Str} {c P : Addr} {params : Arguments} {body : Expr} {scope : Scope} {pos : Pos} {E : Value → Shared → Prop} {Q : Value → Shared → Prop} (I : Inv X pins σ H s) (R : RG X.prog X.w X.K g H) (TB : TabB X.base X.mg c P) (hcode : X.env.code = .ref c)
    (gP : g P = some (.tbl nm)) (hn : nm pos.line pos.col = X.env.qual ++ "<lambda>") (hfree : ∀ y ∈ scope.names, y.2 = .free → ∃ c, X.env.cells.lookup y.1 = some c)
    (h : ∀ (f c' : Addr) (H1 : Hp) (s' : Shared), Inv X pins σ H1 s' → Ext g H (gput g f (.lam ⟨X.env.qual ++ "<lambda>", params, body, scope, cloFrom X.env.cells scope.names [], c'⟩)) H1 → RG X.prog X.w X.K (gput g f (.lam ⟨X.env.qual ++ "<lambda>", params, body, scope, cloFrom X.env.cells scope.names [], c'⟩)) H1 → H f = none → Q (.ref f) s') :
    wpAny (model X.prog X.w) X.A (makeFunction "<lambda>" (X.env.qual ++ "<lambda>") params (.expr body) scope X.env [] [] [] pos pos.line) Q E s := by
  cases R P _ gP with
  | @tbl _ ps hP ht ha =>
    have bP : s.heap.BuiltinsAt X.mg P := TB.bm.keeps I.bk
    have hP' : s.heap.get? P = some { cls := .none, data := .fields ps } := I.hok P _ hP
    cases hc : codeAmong pos ps.toList with
    | none =>
      refine PySem.W.kla_makeFunction (mg := X.mg) (c := c) (P := P) (ps := ps) (closure_ok hfree) I.ok.glob (I.mod.glob.keeps I.bk) hcode (TB.code.keeps I.bk) hP' ht hc TB.gP bP fun c' ctv h' tk hx hge hlt hrec htb => ?_
      obtain ⟨c2, oc, vs, t, e2, hoc, hd, hv⟩ := hrec
      cases e2
      have nC : H c' = none := I.hok.fresh hge
      have I1 := inv_table (t' := tk) (more := #[rawInt pos.line, rawInt pos.col, .ref c']) (h' := h') I hP (fun b o hb e => hx b o hb e) htb hge ⟨oc, vs, t, hoc, hd, hv⟩
      have eL : (ps ++ #[rawInt pos.line, rawInt pos.col, .ref c']).toList = ps.toList ++ [rawInt pos.line, rawInt pos.col, .ref c'] := by simp
      have nPc : P ≠ c' := ne_of_none hP nC
      have nF := I1.hok.fresh (Nat.le_refl _)
      have I2 := inv_lam (L := ⟨X.env.qual ++ "<lambda>", params, body, scope, cloFrom X.env.cells scope.names [], c'⟩) (t' := tk) (pm := (X.mg "__name__").getD .none) (ctv := ctv) I1
      have gF : H h'.objs.size = none := I.hok.fresh (Nat.le_trans hge (Nat.le_of_lt hlt))
      have nFc : h'.objs.size ≠ c' := Nat.ne_of_gt hlt
      have gc : g c' = none := R.fresh nC
      have same : ∀ b, b ≠ P → H b ≠ none → upd (upd (upd H P (.tbl (ps ++ #[rawInt pos.line, rawInt pos.col, .ref c']))) c' (CodeO c' (X.env.qual ++ "<lambda>"))) h'.objs.size (lamO h'.objs.size ⟨X.env.qual ++ "<lambda>", params, body, scope, cloFrom X.env.cells scope.names [], c'⟩) b = H b := fun b hb hn => by
        rw [upd_ne (fun z => hn (by rw [z]; exact gF)), upd_ne (fun z => hn (by rw [z]; exact nC)), upd_ne hb]
      generalize hH1 : upd (upd (upd H P (.tbl (ps ++ #[rawInt pos.line, rawInt pos.col, .ref c']))) c' (CodeO c' (X.env.qual ++ "<lambda>"))) h'.objs.size (lamO h'.objs.size ⟨X.env.qual ++ "<lambda>", params, body, scope, cloFrom X.env.cells scope.names [], c'⟩) = H1 at I2 same
      have hC1 : Rd H1 c' (CodeO c' (X.env.qual ++ "<lambda>")) := .inl (by rw [← hH1, upd_ne nFc.symm, upd_same])
      have eE : Ext g H (gput g h'.objs.size (.lam ⟨X.env.qual ++ "<lambda>", params, body, scope, cloFrom X.env.cells scope.names [], c'⟩)) H1 := fun b o h1 h2 =>
        ⟨by rw [gput_ne (ne_of_none h2 gF)]; exact h1, .inl (by rw [same b (fun z => by subst z; rw [gP] at h1; cases h1) (by rw [h2]; simp)]; exact h2)⟩
      refine h h'.objs.size c' _ _ I2 eE (fun b o hb => ?_) gF
      by_cases hbF : b = h'.objs.size
      · subst hbF
        rw [gput_same] at hb
        cases hb
        exact .lam (by rw [← hH1]; exact upd_same) (by rw [gput_ne nFc.symm]; exact gc) hC1
      · rw [gput_ne hbF] at hb
        by_cases hbP : b = P
        · subst hbP
          rw [gP] at hb
          cases hb
          refine .tbl (ps := ps ++ #[rawInt pos.line, rawInt pos.col, .ref c']) (by rw [← hH1, upd_ne (ne_of_none hP gF), upd_ne nPc, upd_same]) (by rw [eL]; exact PySem.TriplesOk_snoc _ _ _ _ ht) fun p' cv hcv => ?_
          rw [eL] at hcv
          rcases among_app2 _ ht hcv with z | ⟨z, z1, z2⟩
          · obtain ⟨c0, e1, e2, e3⟩ := ha p' cv z
            obtain ⟨q1, q2⟩ := eE.stay c0 _ e2 e3
            exact ⟨c0, e1, q1, q2⟩
          · refine ⟨c', z, by rw [gput_ne nFc.symm]; exact gc, ?_⟩
            rw [← z1, ← z2, hn]
            exact hC1
        · exact (R b o hb).mono eE.stay (same b hbP (R.ne hb))
    | some cv =>
      obtain ⟨c', e, gc, hco⟩ := ha pos cv hc
      subst e
      rw [hn] at hco
      refine PySem.W.kla_makeFunctionHit (mg := X.mg) (c := c) (P := P) (ps := ps) (closure_ok hfree) I.ok.glob (I.mod.glob.keeps I.bk) hcode (TB.code.keeps I.bk) hP' ht hc bP fun ctv h' tk hx hsz => ?_
      have I1 : Inv X pins σ H { s with heap := h', toks := tk } := I.kept hx
      have nF : H h'.objs.size = none := I1.hok.fresh (Nat.le_refl _)
      have I2 := inv_lam (L := ⟨X.env.qual ++ "<lambda>", params, body, scope, cloFrom X.env.cells scope.names [], c'⟩) (t' := tk) (pm := (X.mg "__name__").getD .none) (ctv := ctv) I1
      have hne : c' ≠ h'.objs.size := fun z => by
        rcases hco with q | ⟨o, q⟩ <;> rw [z, nF] at q <;> cases q
      have eE : Ext g H (gput g h'.objs.size (.lam ⟨X.env.qual ++ "<lambda>", params, body, scope, cloFrom X.env.cells scope.names [], c'⟩)) (upd H h'.objs.size (lamO h'.objs.size ⟨X.env.qual ++ "<lambda>", params, body, scope, cloFrom X.env.cells scope.names [], c'⟩)) := Ext.newG nF
      exact h h'.objs.size c' _ _ I2 eE (R.newG nF (.lam upd_same (by rw [gput_ne hne]; exact gc) (eE.stay c' _ gc hco).2)) nF
/-- the lambda's frame, as one of a def made there -/
abbrev lnf (L : LF) : NF := ⟨"<lambda>", L.qual, L.params, [], L.scope, L.cl, L.c⟩
theorem run_lam {A : Around} {E : Value → Shared → Prop} {k : Nat} {f : Addr} {L : LF} {N ps fr : List PySem.Str} {js : List Nat} {Q : VK} {us : List Value} {vs : List V} {t : TE} (S : NScope N ps fr L.scope) (hb : ∀ (pm cv ctv : Value) (us : List Value), us.length = ps.length → bindArgs (PySem.W.kla_fn "<lambda>" L.qual L.params L.body L.scope L.cl pm cv ctv) ⟨us, []⟩ = pure (ps.zip us))
    (hr : Room (k + 1) A) (e0 : Env0 X.prog X.w X.K X.mg X.base A X.stack s H) (I : Inv X pins σ H s) (hf : H f = some (lamO f L)) (hc : Rd H L.c (CodeO L.c L.qual)) (cp : Caps X L.cl fr js) (r : Vals vs us) (hl : vs.length = ps.length)
    (ht : Room k (A.deeper (envF (lnf L) f s.heap.objs.size)) → PE (ncx CX0 X.prog X.w X.K X.mg X.base N (lnf L) f A X.stack s H fun _ _ _ => False) L.body t) (hq : t (startF N vs (js.map (slotAt σ))) H Q) : wpAny (model X.prog X.w) A (call (.ref f) us) (EP X pins σ Q) E s := by
  have C : CellsAt L.cl fr (js.map (slotAt σ)) s.heap H := cells_of I cp
  have lim : s.heap.NoLimit := e0.mod.nolimit.keeps fun b o e => (e0.bs b o e).1
  obtain ⟨⟨pm, ctv, ho⟩, _, _⟩ := e0.hok f _ hf
  have rc : codeAny (model X.prog X.w) A (.call (.ref f) ⟨us, []⟩) (CR CX0 X.stack X.prog X.w H s Q fun _ _ _ => False) s := by
    refine PySem.W.kla_callFunE hr.depth ho rfl S.co S.gen rfl (rd_code e0.hok hc) ?_
    rw [hb pm (.ref L.c) ctv us (by rw [← r.length]; exact hl)]
    refine wpAny_pure (wpAny_newFunctionEnv S.nocell (fun ⟨n, _⟩ hy => S.par n (List.of_mem_zip hy).1) (fun h₁ hns hsb => ⟨lim.fresh _ hsb, ?_⟩) S.kind)
    show codeAny _ _ (.expr L.body (envF (lnf L) f s.heap.objs.size)) _ _
    have kp : ∀ b o, s.heap.get? b = some o → h₁.get? b = some o := fun b o e => hsb.extBut b o (Nat.ne_of_lt (Heap.lt_size e)) (Heap.get?_push_of_some _ e)
    have J : Inv (ncx CX0 X.prog X.w X.K X.mg X.base N (lnf L) f A X.stack s H fun _ _ _ => False) [] (startF N vs (js.map (slotAt σ))) H { s with heap := h₁, toks := s.toks + (ps.zip us).length } := inv_startN (F := lnf L) S hr.hd e0 hl r C hns kp
    refine PySem.W.kla_codeExpr (wpAny_mono ((ht (hr.deeper _)).run [] _ (startF N vs (js.map (slotAt σ))) H _ J hq) (fun v s' hs => ?_) fun e s' hs => hs)
    obtain ⟨w', H', J', rv, q⟩ := hs
    exact ⟨w', H', J'.os, J'.bare, J'.base, J'.hok, rv, q⟩
  refine wpAny_call (codeAny_mono rc fun r s' hq => ?_)
  cases r with
  | error e => exact False.elim hq
  | ok fl =>
    cases fl with
    | ret u => exact I.after hq
    | next => exact False.elim hq
    | brk => exact False.elim hq
    | cont => exact False.elim hq
end
section
variable {X : Cx}
theorem lam_sort {pins : List (Addr × Obj)} {σ : L2.St} {H : Hp} {s : Shared} {g : G} {f : Addr} {F : LF} {δ : TSt} {d : T} {dv : V} {u : Value} {k dep : Nat} {N ps fr : List PySem.Str} {js : List Nat} {tb : QE} {ts : List T} {kf : T → T} {Q' : K1} {Q : VK}
    (S : NScope N ps fr F.scope) (hps : ps.length = 1) (hb : ∀ (pm cv ctv : Value) (us : List Value), us.length = ps.length → bindArgs (PySem.W.kla_fn "<lambda>" F.qual F.params F.body F.scope F.cl pm cv ctv) ⟨us, []⟩ = pure (ps.zip us)) (hr : Room (k + 3) X.A) (hc : X.calm = true) (cp : X.Ok → Caps X F.cl fr js)
    (hbody : ∀ (A : Around) (outer : List Env) (s : Shared) (H : Hp) (E : XK), Room k (A.deeper (envF (lnf F) f s.heap.objs.size)) → PE (ncx CX0 X.prog X.w X.K X.mg X.base N (lnf F) f A outer s H E) F.body (lowE X tb))
    (I : Inv X pins σ H s) (SS : StR X.prog X.w X.K g H δ σ) (rd : TV X.prog X.w X.K g H d dv) (ru : L2.RelV dv u) (R : RG X.prog X.w X.K g H) (gf : g f = some (.lam F)) (hit : itemsT g d = some ts) (hz : ts.length ≤ sizeLine)
    (hsp : ∀ t ∈ ts, ∀ Q : K1, Q (kf t) g → tb (startC N t (caps δ js)) g Q) (hK : KeysOk dep kf ts) (hdep : dep ≤ 60)
    (hq : ∀ ts' p, ts'.Perm ts → (ts'.Pairwise fun x y => ltB (kf y) (kf x) = false) → g p = none → Q' (.ref p) (gput (gdel g f) p (.lst ts'))) (kk : KE X (gdel g f) H Q' Q) :
    wpAny (model X.prog X.w) X.A (call (.builtin "sorted") [u] [(PySem.Str.ofString "key", .ref f)]) (EP X pins σ Q) X.xe s := by
  have hfH : H f = some (lamO f F) := by cases R f _ gf with | lam a1 _ _ => exact a1
  refine call_function_entry_kw kind_sorted plain_sorted entry_sorted (PyProof.Rows.ksk_s1 _ _) ?_
  unfold Builtin.«sorted»
  refine wpAny_bind (m := checkCount "sorted" 1 1 _) (wpAny_pure ?_)
  refine wpAny_bind (collect_items (A := X.A.in1) (I.ok.hd hc) I R rd ru hit hz fun h' tk xs vs kp rv rt => ?_)
  have hvl : vs.length = ts.length := by rw [← rv.length, ← rt.len]
  refine wpAny_bind (wpAny_newList ?_ (by show vs.length ≤ _; omega))
  have I1 : Inv X pins σ H { s with heap := h', toks := tk } := I.kept kp
  have I2 : Inv X pins σ H { s with heap := h'.push (seqObj "list" vs.toArray 0), toks := tk } := I1.kept (t' := tk) fun b o e => Heap.get?_push_of_some _ e
  have fa : FpOk X pins H h'.objs.size := I1.fpOk (Nat.le_refl _) (I1.hok.fresh (Nat.le_refl _))
  have hoL : (h'.push (seqObj "list" vs.toArray 0)).get? h'.objs.size = some (seqObj "list" vs.toArray 0) := Heap.get?_push_size _ rfl
  refine wpAny_bind (wpAny_holding (wpAny_call_entry_kw slot_list_sort ⟨_, hoL, rfl⟩ entry_list_sort ?_ (PyProof.Rows.ksk_l1 _ _)))
  rw [ksk_t1]
  have hu := hr.un
  refine keyed_tree (s := { s with heap := h'.push (seqObj "list" vs.toArray 0), toks := tk }) (A := X.A.in1.in1) (fun pins' s' H' x v t hm J eH RH tv rx => ?_) I2 R fa hoL rv rt hz hK (by show X.A.units + 1 + 1 + dep + dep + 4 < cLine; omega) fun s' H' ts' xs' vs' c J eH RH fa' ho' rv' rt' hp hw => ⟨_, rfl, ?_⟩
  · cases RH f _ gf with
    | lam a1 a2 a3 =>
      refine run_lam (L := F) (js := js) (N := N) (ps := ps) (fr := fr) (k := k) (t := lowE X tb) S hb (hr.in1.in1) (J.env0.in1.in1) J a1 a3 (cp J.ok) (.cons rx .nil) (by rw [hps]; rfl) (fun hrm => hbody _ _ _ _ _ hrm) ?_
      exact ⟨startC N t (caps δ js), g, _, startC_r (SS.mono eH.stay) tv, RH, hsp t hm (fun d g2 => d = kf t ∧ g2 = g) ⟨rfl, rfl⟩, fun d1 g1 v1 H1 r1 e1 R1 q1 => by obtain ⟨rfl, rfl⟩ := q1; exact ⟨r1, e1, R1⟩⟩
  · refine wpAny_pure ⟨_, rfl, ?_⟩
    have hlen : xs'.length ≤ sizeLine := by rw [← rt'.len, hp.length_eq]; exact hz
    have J2 : Inv X pins σ (upd H' h'.objs.size (.lst xs')) s' := track (t' := s'.toks) (ch := [h'.objs.size]) J (fun b o _ e => e) (fun b hb => by
      have eb : b = h'.objs.size := by simpa using hb
      subst eb
      exact fa') (by simp) ⟨hlen, vs', c, rv', ho'⟩
    have RD : RG X.prog X.w X.K (gdel g f) H' := RH.sub sub_del
    have eD : Ext (gdel g f) H (gdel g f) H' := fun b o h1 h2 => by
      by_cases hb : b = f
      · subst hb
        rw [hfH] at h2
        cases h2
        have : H' b = some (lamO b F) := by cases RH b _ gf with | lam a1 _ _ => exact a1
        exact ⟨h1, .inl this⟩
      · rw [gdel_ne hb] at h1
        exact ⟨by rw [gdel_ne hb]; exact (eH b o h1 h2).1, (eH b o h1 h2).2⟩
    have rtD : TVs X.prog X.w X.K (gdel g f) H' ts' xs' := rt'.mono (Ext.stay (Sub.ext sub_del))
    exact ⟨.ref h'.objs.size, _, J2, rfl, kk _ _ _ _ .ref (eD.trans (Ext.newG fa'.1)) (RD.newG fa'.1 (.lst upd_same (rtD.mono (Ext.newG fa'.1).stay))) (hq ts' _ hp hw (RH.fresh fa'.1))⟩
/-- the reading: P the table, q the lambda's full name, js the captured names' slots -/
def qLamSort (P : Addr) (q : PySem.Str) (line col : Nat) (N : List PySem.Str) (js : List Nat) (te : QE) (tb : QE) : QE := fun δ g Q => te δ g fun d g1 => (∃ nm, g1 P = some (.tbl nm) ∧ nm line col = q) ∧ ∃ ts kf dep, itemsT g1 d = some ts ∧ ts.length ≤ sizeLine ∧
  (∀ (f : Addr) (F : LF), g1 f = none → ∀ t ∈ ts, ∀ Q : K1, Q (kf t) (gput g1 f (.lam F)) → tb (startC N t (caps δ js)) (gput g1 f (.lam F)) Q) ∧ KeysOk dep kf ts ∧ dep ≤ 60 ∧ ∀ ts' p, ts'.Perm ts → (ts'.Pairwise fun x y => ltB (kf y) (kf x) = false) → g1 p = none → Q (.ref p) (gput g1 p (.lst ts'))
theorem gdel_gput {g : G} {a : Addr} {o : GO} (h : g a = none) : gdel (gput g a o) a = g := gdel_put h
theorem itemsT_put {g : G} {f : Addr} {F : LF} {d : T} {ts : List T} (h : g f = none) (e : itemsT g d = some ts) : itemsT (gput g f (.lam F)) d = some ts := by
  unfold itemsT at e ⊢
  have : res (gput g f (.lam F)) d = res g d := by
    cases d with
    | ref a =>
      by_cases q : a = f
      · subst q
        simp [res, h, gput_same]
      · simp [res, gput_ne q]
    | _ => rfl
  rw [this]
  exact e
theorem q_sortLam {c P : Addr} {params : Arguments} {body : Expr} {scope : Scope} {lpos p1 p3 p4 : Pos} {k : Nat} {e : Expr} {te tb : QE} {N ps fr : List PySem.Str} {js : List Nat} (TB : TabB X.base X.mg c P) (hcode : X.env.code = .ref c)
    (hfree : ∀ y ∈ scope.names, y.2 = .free → X.env.scope.names.lookup y.1 = some .cell ∨ X.env.scope.names.lookup y.1 = some .free) (hdef : defaultsOf params X.env = ([], []))
    (S : NScope N ps fr scope) (hps : ps.length = 1) (hb : ∀ (q : PySem.Str) (cl : List (PySem.Str × Addr)) (pm cv ctv : Value) (us : List Value), us.length = ps.length → bindArgs (PySem.W.kla_fn "<lambda>" q params body scope cl pm cv ctv) ⟨us, []⟩ = pure (ps.zip us))
    (hfr : ∀ y ∈ fr, (y, NameKind.free) ∈ scope.names) (hjs : js.map (fun j => X.N[j]?) = fr.map some) (hr : Room (k + 3) X.A) (hc : X.calm = true) (hg : Gl X "sorted") (hm : X.mg "sorted" = none)
    (he : PE X e (lowE X te)) (hbody : ∀ (F : LF) (f : Addr) (A : Around) (outer : List Env) (s : Shared) (H : Hp) (E : XK), F.scope = scope → F.body = body → Room k (A.deeper (envF (lnf F) f s.heap.objs.size)) → PE (ncx CX0 X.prog X.w X.K X.mg X.base N (lnf F) f A outer s H E) body (lowE X tb))
    (h1 : starEach [e] X.env = (false, eval e X.env) :: starEach [] X.env) (h2 : backTo p4 (starEach [e] X.env) = (false, eval e X.env) :: backTo p4 (starEach [] X.env)) (h3 : (backTo p4 (starEach [e] X.env)).any (·.1) = false) :
    PE X (.Call (.Name "sorted" p1) [e] [⟨some "key", .Lambda params body scope lpos, p3⟩] p4) (lowE X (qLamSort P (X.env.qual ++ "<lambda>") lpos.line lpos.col N js te tb)) := by
  have hfrs : ∀ {ok : X.Ok}, ∀ y ∈ scope.names, y.2 = .free → ∃ c, X.env.cells.lookup y.1 = some c := fun {ok} y hy e => (hfree y hy e).elim (fun z => ok.has _ (.inl z)) fun z => ok.has _ (.inr z)
  let mk : Addr → LF := fun c' => ⟨X.env.qual ++ "<lambda>", params, body, scope, cloFrom X.env.cells scope.names [], c'⟩
  have eLam : PE X (.Lambda params body scope lpos) (fun σ H Q => ∃ g nm, RG X.prog X.w X.K g H ∧ g P = some (.tbl nm) ∧ nm lpos.line lpos.col = X.env.qual ++ "<lambda>" ∧
      ∀ f c' H1, Ext g H (gput g f (.lam (mk c'))) H1 → RG X.prog X.w X.K (gput g f (.lam (mk c'))) H1 → H f = none → Q (.ref f) H1) := by
    refine ⟨fun pins s σ H Q I ⟨g, nm, R, gP, hn, h⟩ => ?_⟩
    refine PySem.W.kla_eval hdef ?_
    exact lam_mk I R TB hcode gP hn (hfrs (ok := I.ok)) fun f c' H1 s' I1 eE R1 f0 => ⟨.ref f, H1, I1, rfl, h f c' H1 eE R1 f0⟩
  have eSort := pe_callBKs (X := X) (x := "sorted") (p := p1) (pos := p4) (e := e) (es := []) (kws := [⟨some "key", .Lambda params body scope lpos, p3⟩]) (id := "sorted") (ks := [PySem.Str.ofString "key"])
    (r := fun σ xs zs H Q => ∃ (f c' : Addr) (δ : TSt) (d : T) (dv : V) (g : G) (Q' : K1) (ts : List T) (kf : T → T) (dep : Nat), xs = [dv] ∧ zs = [.ref f] ∧ StR X.prog X.w X.K g H δ σ ∧ TV X.prog X.w X.K g H d dv ∧ RG X.prog X.w X.K g H ∧ g f = some (.lam (mk c')) ∧ itemsT g d = some ts ∧ ts.length ≤ sizeLine ∧
      (∀ t ∈ ts, ∀ Q : K1, Q (kf t) g → tb (startC N t (caps δ js)) g Q) ∧ KeysOk dep kf ts ∧ dep ≤ 60 ∧
      (∀ ts' p, ts'.Perm ts → (ts'.Pairwise fun x y => ltB (kf y) (kf x) = false) → g p = none → Q' (.ref p) (gput (gdel g f) p (.lst ts'))) ∧ KE X (gdel g f) H Q' Q)
    (fun pins s σ H xs zs us ws Q I rx rz h => by
      obtain ⟨f, c', δ, d, dv, g, Q', ts, kf, dep, rfl, rfl, SS, rd, R, gf, hit, hz, hsp, hK, hdep, hq, kk⟩ := h
      obtain ⟨u, rfl, ru⟩ := L2.Vals.one rx
      obtain ⟨w, rfl, rw'⟩ := L2.Vals.one rz
      cases rw'
      exact lam_sort (F := mk c') S hps (fun pm cv ctv us hl => hb _ _ pm cv ctv us hl) hr hc (fun ok => Caps.made ok hfree hfr hjs) (fun A outer s H E hrm => hbody (mk c') f A outer s H E rfl rfl hrm) I SS rd ru R gf hit hz hsp hK hdep hq kk)
    hg hm PyProof.Rows.boot_sorted (pa_cons he pa_nil h1) (pk_cons eLam pk_nil) (by decide) (by decide) h2 h3 (by rfl) (by rfl) (by rfl)
  refine PE.imp eSort fun σ H Q ⟨δ, g, Q', SS, R, h, k'⟩ => ?_
  refine ⟨δ, g, _, SS, R, h, fun d g1 v H1 r1 e1 R1 q => ?_⟩
  obtain ⟨⟨nm, gP, hn⟩, ts, kf, dep, hit, hz, hsp, hK, hdep, hq⟩ := q
  refine ⟨g1, nm, R1, gP, hn, fun f c' H2 e2 R2 f0 => ?_⟩
  have g0 : g1 f = none := R1.fresh f0
  refine ⟨f, c', δ, d, v, gput g1 f (.lam (mk c')), Q', ts, kf, dep, rfl, rfl, (SS.mono e1.stay).mono e2.stay, r1.mono e2.stay, R2, gput_same, itemsT_put g0 hit, hz, fun t ht Q hQ => hsp f (mk c') g0 t ht Q hQ, hK, hdep, fun ts' p hp hw hpn => ?_, ?_⟩
  · rw [gdel_gput g0]
    refine hq ts' p hp hw ?_
    by_cases z : p = f
    · subst z; exact g0
    · rw [gput_ne z] at hpn; exact hpn
  · rw [gdel_gput g0]
    have e3 : Ext g1 H1 g1 H2 := by
      have := e2.trans (Sub.ext (H := H2) (sub_del (g := gput g1 f (.lam (mk c'))) (a := f)))
      rwa [gdel_gput g0] at this
    exact k'.ext (e1.trans e3)
end
end TL
set_option Elab.async false
set_option linter.all false
set_option maxRecDepth 100000
set_option maxHeartbeats 4000000
/-! TL22: try .. else whose body raises nothing, a < b < c, max(.., default=), sum, max, min of ints. -/
namespace TL
open PySem PySem.Spec L2 PyProof.Rows

section
variable {X : Cx} {pos : Pos}
/-- a try whose body raises nothing here -/
theorem qs_tryE {body orelse : List Stmt} {h₀ : ExceptHandler} {hds : List ExceptHandler} {tb tu : QS} (hx : ∀ e s, X.xe e s → False) (hb : PSs X body (lowS X tb)) (ho : PSs X orelse (lowS X tu)) : PS X (.Try body (h₀ :: hds) orelse [] pos) (lowS X (qSeq tb tu)) := by
  refine ⟨fun pins s σ H D I ⟨δ, g, D', S, R, h, k⟩ => ?_⟩
  refine wpAny_Try_except ?_
  refine wpAny_mono (hb.run pins s σ H { D with nx := lowS X tu D } I ⟨δ, g, _, S, R, h, ⟨fun δ1 g1 σ1 H1 S1 e R1 q => ⟨δ1, g1, D', S1, R1, q, k.ext e⟩, k.rt, k.bk, k.ct⟩⟩) (fun f s1 hsp => ?_) (fun e s1 he => (hx _ _ he).elim)
  cases f with
  | next =>
    obtain ⟨σ', H', J', q⟩ := hsp
    exact ho.run pins s1 σ' H' D J' q
  | brk => exact hsp
  | cont => exact hsp
  | ret u => exact hsp
/-! ### a < b < c -/
theorem low_chain {r r' : Q2} {ta tb tc : QE} {σ : L2.St} {H : Hp} {Q : VK} (h : lowE X (qChain r r' ta tb tc) σ H Q) : tChain (low2 X r) (low2 X r') (lowE X ta) (lowE X tb) (lowE X tc) σ H Q := by
  obtain ⟨δ, g, Q', S, R, h, k⟩ := h
  refine ⟨δ, g, _, S, R, h, fun d1 g1 v1 H1 r1 e1 R1 h1 => ⟨δ, g1, _, S.mono e1.stay, R1, h1, fun d2 g2 v2 H2 r2 e2 R2 h2 => ⟨d1, d2, g2, _, r1.mono e2.stay, r2, R2, h2, fun d3 g3 v3 H3 r3 e3 R3 h3 => ?_⟩⟩⟩
  cases r3 with
  | @bl c =>
    refine ⟨c, rfl, ?_⟩
    have e := (e1.trans e2).trans e3
    cases c with
    | true =>
      simp only [isB, if_true] at h3
      rw [if_pos rfl]
      exact ⟨δ, g3, _, S.mono e.stay, R3, h3, fun d4 g4 v4 H4 r4 e4 R4 h4 => ⟨d2, d4, g4, Q', (r2.mono e3.stay).mono e4.stay, r4, R4, h4, k.ext (e.trans e4)⟩⟩
    | false =>
      simp only [isB, Bool.false_eq_true, if_false] at h3
      rw [if_neg Bool.false_ne_true]
      exact k _ _ _ _ .bl e R3 h3
  | _ => exact h3.elim
theorem q_chain {a b c : Expr} {ta tb tc : QE} {op op' : CmpOp} {r r' : Q2} (ho : OpR X (compareOp op) (low2 X r)) (ho' : OpR X (compareOp op') (low2 X r')) (ha : PE X a (lowE X ta)) (hb : PE X b (lowE X tb)) (hc : PE X c (lowE X tc))
    (hm : lastMarks [op, op'] [b, c] = false := by with_unfolding_all rfl) : PE X (.Compare a [op, op'] [b, c] pos) (lowE X (qChain r r' ta tb tc)) := PE.imp (pe_chain ho ho' ha hb hc hm) fun _ _ _ => low_chain
theorem q_tchain {a b c : Expr} {ta tb tc : QE} {op op' : CmpOp} {r r' : Q2} (ho : OpR X (compareOp op) (low2 X r)) (ho' : OpR X (compareOp op') (low2 X r')) (ha : PE X a (lowE X ta)) (hb : PE X b (lowE X tb)) (hc : PE X c (lowE X tc))
    (hm : lastMarks [op, op'] [b, c] = false := by with_unfolding_all rfl) : PT X (.Compare a [op, op'] [b, c] pos) (lowT X (qTB (qChain r r' ta tb tc))) := PT.imp (pt_chain ho ho' ha hb hc hm) fun σ H Q ⟨δ, g, Q', S, R, h, k⟩ =>
  low_chain ⟨δ, g, _, S, R, h, isB_k k⟩
/-! ### sums and bounds of lists of ints -/
def onInts (f : List Int → G → K1 → Prop) : QC := c1 fun d g Q => match res g d with
  | .lst ts => (match intsT ts with
    | some ns => f ns g Q
    | none => False)
  | _ => False
theorem low_ints {f : List Int → G → K1 → Prop} {xs : List V} {H : Hp} {Q : VK} (h : lowC X (onInts f) xs H Q) : ∃ (a : Addr) (ns : List Int) (g : G) (Q' : K1), xs = [.ref a] ∧ SqL X.K H a (ns.map V.int) ∧ RG X.prog X.w X.K g H ∧ f ns g Q' ∧ KE X g H Q' Q := by
  obtain ⟨x, d, g, Q', rfl, r, R, hh, k⟩ := low_c1 h
  have q := res_rv R r
  split at hh
  · rename_i ts e
    rw [e] at q
    obtain ⟨a, xs, rfl, ha, hx⟩ := q.toLst
    split at hh
    · rename_i ns en
      have := intsT_v hx en; subst this
      exact ⟨a, ns, g, Q', rfl, .inl ha, R, hh, k⟩
    · exact hh.elim
  · exact hh.elim
def bSum : QC := onInts fun ns g Q => Q (.int ns.sum) g
def bMax : QC := onInts fun ns g Q => 0 < ns.length ∧ ∀ m, m ∈ ns → (∀ y, y ∈ ns → y ≤ m) → Q (.int m) g
def bMin : QC := onInts fun ns g Q => 0 < ns.length ∧ ∀ m, m ∈ ns → (∀ y, y ∈ ns → m ≤ y) → Q (.int m) g
theorem b_sum (hc : X.calm = true) : CallR X (.builtin "sum") (lowC X bSum) := CallR.imp (cr_sum hc) fun xs H Q h => by
  obtain ⟨a, ns, g, Q', rfl, hs, R, hh, k⟩ := low_ints h
  exact ⟨a, ns, rfl, hs, k _ _ _ _ .int Ext.refl R hh⟩
theorem b_max (hc : X.calm = true) : CallR X (.builtin "max") (lowC X bMax) := CallR.imp (cr_max hc) fun xs H Q h => by
  obtain ⟨a, ns, g, Q', rfl, hs, R, hh, k⟩ := low_ints h
  exact ⟨a, ns, rfl, hs, hh.1, fun m h1 h2 => k _ _ _ _ .int Ext.refl R (hh.2 m h1 h2)⟩
theorem b_min (hc : X.calm = true) : CallR X (.builtin "min") (lowC X bMin) := CallR.imp (cr_min hc) fun xs H Q h => by
  obtain ⟨a, ns, g, Q', rfl, hs, R, hh, k⟩ := low_ints h
  exact ⟨a, ns, rfl, hs, hh.1, fun m h1 h2 => k _ _ _ _ .int Ext.refl R (hh.2 m h1 h2)⟩
/-- max(xs, default=k) -/
def maxOr (k : Int) : List Int → Int
  | [] => k
  | n :: r => r.foldl max n
def bMaxD : QCK := fun ds es g Q => match ds, es with
  | [d], [.int k] => (match res g d with
    | .lst ts => (match intsT ts with
      | some ns => Q (.int (maxOr k ns)) g
      | none => False)
    | _ => False)
  | _, _ => False
theorem pds_ints (ns : List Int) : pds (ns.map T.int) = ns.map PyData.int := by
  induction ns with
  | nil => rfl
  | cons n r ih => simp [pds, pd, ih]
theorem intsT_map : ∀ {ts : List T} {ns : List Int}, intsT ts = some ns → ts = ns.map T.int
  | [], ns, e => by simp [intsT] at e; subst e; rfl
  | .int b :: ts, ns, e => by
    simp only [intsT, Option.map_eq_some_iff] at e
    obtain ⟨cs, e1, rfl⟩ := e
    rw [intsT_map e1]; rfl
  | .non :: _, _, e => by simp [intsT] at e
  | .bl _ :: _, _, e => by simp [intsT] at e
  | .str _ :: _, _, e => by simp [intsT] at e
  | .ref _ :: _, _, e => by simp [intsT] at e
  | .ty _ :: _, _, e => by simp [intsT] at e
  | .tup _ :: _, _, e => by simp [intsT] at e
  | .lst _ :: _, _, e => by simp [intsT] at e
  | .dct _ :: _, _, e => by simp [intsT] at e
  | .scr _ :: _, _, e => by simp [intsT] at e
theorem isDs_ints (n : Nat) (ns : List Int) : isDs n (ns.map T.int) = true := by
  induction ns with
  | nil => cases n <;> rfl
  | cons i r ih =>
    show (isDn n (.int i) && isDs n (r.map T.int)) = true
    rw [ih]
    cases n <;> rfl
theorem depth_ints (ns : List Int) : PyData.depthAll (ns.map PyData.int) = 0 := by
  induction ns with
  | nil => rfl
  | cons n r ih => simp [PyData.depthAll, PyData.depth, ih]
theorem cr_maxD (hc : X.calm = true) (hu : X.A.units + 2 < cLine) : CallRK X (.builtin "max") [Str.ofString "default"] (lowCK X bMaxD) := by
  intro pins s σ H xs zs us ws Q I rx rz h
  obtain ⟨ds, es, g, Q', r1, r2, R, hh, kk⟩ := h
  unfold bMaxD at hh
  split at hh
  · rename_i d k
    cases r1 with
    | cons rd r1 =>
      cases r1
      cases r2 with
      | cons rf r2 =>
        cases r2
        cases rf
        obtain ⟨u, rfl, ru⟩ := L2.Vals.one rx
        obtain ⟨w, rfl, rw'⟩ := L2.Vals.one rz
        obtain ⟨tk0, rfl⟩ := rw'
        have q := res_rv R rd
        split at hh
        · rename_i ts e
          rw [e] at q
          obtain ⟨a, xs, rfl, ha, hx⟩ := q.toLst
          split at hh
          · rename_i ns en
            have := intsT_map en; subst this
            cases ru
            obtain ⟨hl, its, n, rv, pl⟩ := rdl I ha
            have hi : s.heap.IsList a its.toArray := ⟨_, pl.2, rfl, _, rfl⟩
            obtain ⟨as, ra⟩ := Dp.readsAll I _ _ _ (TVs.dp X.K 1 _ _ hx (isDs_ints 1 ns)) rv
            rw [pds_ints] at ra
            show wpAny (model X.prog X.w) X.A (call (.builtin "max") [.ref a] [(Str.ofString "default", .int k tk0)]) (EP X pins σ Q) X.xe s
            refine PySem.W.max_list_default (I.ok.hd hc) hi (by simpa using ra) ⟨fun x hx y hy => ?_, fun x hx => ?_⟩ (by rw [depth_ints]; omega) (fun e0 h' tk kp => ?_) (fun y ys i v h' tk bs e0 hv hr kp => ?_)
            · obtain ⟨i, _, rfl⟩ := List.mem_map.mp hx
              obtain ⟨j, _, rfl⟩ := List.mem_map.mp hy
              rfl
            · obtain ⟨i, _, rfl⟩ := List.mem_map.mp hx
              simp
            · cases ns with
              | nil => exact ⟨.int k, H, I.kept kp, ⟨_, rfl⟩, kk _ _ _ _ .int Ext.refl R hh⟩
              | cons _ _ => simp at e0
            · cases ns with
              | nil => simp at e0
              | cons m r =>
                simp only [List.map_cons, List.cons.injEq] at e0
                obtain ⟨rfl, rfl⟩ := e0
                rw [PySem.W.maxD_ints] at hr
                cases hr with
                | int _ t => exact ⟨.int (r.foldl max m), H, I.kept kp, ⟨_, rfl⟩, kk _ _ _ _ .int Ext.refl R hh⟩
          · exact hh.elim
        · exact hh.elim
  · exact hh.elim
end
end TL
set_option Elab.async false
set_option linter.all false
set_option maxRecDepth 100000
set_option maxHeartbeats 4000000
/-! TL23: the rule for a def whose words the head tells; comprehensions whose elements keep the view. -/
namespace TL
open PySem PySem.Spec L2 PyProof.Rows
section
variable {P : Program} {w : World} {K : PySem.W.Frag} {mg : PySem.Str → Option Value} {base : Heap}
abbrev FnT (P : Program) (w : World) (K : PySem.W.Frag) (mg : PySem.Str → Option Value) (base : Heap) (k : Nat) (f : Addr) (fd : FuncData) (ps : List PySem.Str) (sp : TSp) : Prop := FnOk P w K mg base CX0 k f fd ps (lowSp P w K ps.length sp)
abbrev cxD (P : Program) (w : World) (K : PySem.W.Frag) (mg : PySem.Str → Option Value) (base : Heap) (N : List PySem.Str) (qual : PySem.Str) (scope : Scope) (f : Addr) (cdv : Value) (A : Around) (outer : List Env) (s : Shared) (H : Hp) (E : XK) : Cx := (cxOf CX0 P w K mg base N qual scope f cdv A outer s H E).nox
/-- THE RULE for a def: its body's reading, then the plain proof -/
theorem fokD {x qual : PySem.Str} {params : Arguments} {body : List Stmt} {scope : Scope} {dvs : List V} {kws : List (PySem.Str × V)} {f : Addr} {fd : FuncData} {N ps : List PySem.Str} {k : Nat} {sp : TSp} {t : QS} (F : FunD K x qual params body scope dvs kws f fd) (S : FnScope N ps scope)
    (hb : ∀ (cdv : Value) (A : Around) (outer : List Env) (s : Shared) (H : Hp) (E : XK), Room k (A.deeper (envOfC qual scope s.heap.objs.size f cdv)) →
      PSs (cxD P w K mg base N qual scope f cdv A outer s H E) body (lowS (cxD P w K mg base N qual scope f cdv A outer s H E) t))
    (hp : ∀ ds g Q, ds.length = ps.length → sp ds g Q noX → t { nx := fun _ g' => Q .non g', rt := Q } (startT N ds) g)
    (hx : ∀ ds g Q E, sp ds g Q E → sp ds g Q noX) : FnT P w K mg base (k + 1) f fd ps sp := by
  refine F.ok S (fun vs H Q E ⟨ds, g, Q', E', hl, r, _⟩ => by rw [← r.len]; exact hl) fun cdv A outer s H vs Q E hr ⟨ds, g, Q', E', hl, r, R, h, k1, k2⟩ => ?_
  refine ⟨_, (hb cdv A outer s H E hr).nox, startT N ds, g, _, startR r, R, hp ds g Q' hl (hx _ _ _ _ h), ⟨fun δ g' σ H' S' e R' q => k1 _ _ _ _ .non e R' q, k1, fun _ _ _ _ _ _ _ z => z.elim, fun _ _ _ _ _ _ _ z => z.elim⟩⟩
/-- the same of a def whose code object is asked for (it makes defs or lambdas) -/
theorem fokC {x qual : PySem.Str} {params : Arguments} {body : List Stmt} {scope : Scope} {dvs : List V} {kws : List (PySem.Str × V)} {p : PySem.Str × Option PySem.Str} {fd : FuncData} {N ps : List PySem.Str} {k : Nat} {sp : TSp} {t : QS} (F : FunD K x qual params body scope dvs kws (He.fAd K p) fd) (S : FnScope N ps scope)
    (hb : ∀ (A : Around) (outer : List Env) (s : Shared) (H : Hp) (E : XK), Room k (A.deeper (envOfC qual scope s.heap.objs.size (He.fAd K p) (.ref (He.codeOf K p)))) →
      PSs (cxD P w K mg base N qual scope (He.fAd K p) (.ref (He.codeOf K p)) A outer s H E) body (lowS (cxD P w K mg base N qual scope (He.fAd K p) (.ref (He.codeOf K p)) A outer s H E) t))
    (hp : ∀ ds g Q, ds.length = ps.length → sp ds g Q noX → t { nx := fun _ g' => Q .non g', rt := Q } (startT N ds) g)
    (hx : ∀ ds g Q E, sp ds g Q E → sp ds g Q noX) : FnT P w K mg base (k + 1) (He.fAd K p) fd ps sp := by
  obtain ⟨oc, od, dV, kV, doc, pm, an, cdv, ct, osl, rfl, lk, hcd, _, _⟩ := F.ex
  obtain ⟨c, rfl⟩ := He.codeIn_ref hcd
  have hc : He.codeOf K p = c := He.codeOf_eq lk rfl
  refine fn_of lk hcd S (fun vs H Q E ⟨ds, g, Q', E', hl, r, _⟩ => by rw [← r.len]; exact hl) fun A outer s H vs Q E hr ⟨ds, g, Q', E', hl, r, R, h, k1, k2⟩ => ?_
  have hb' := hb A outer s H E (by rw [hc]; exact hr)
  rw [hc] at hb'
  refine ⟨_, hb'.nox, startT N ds, g, _, startR r, R, hp ds g Q' hl (hx _ _ _ _ h), ⟨fun δ g' σ H' S' e R' q => k1 _ _ _ _ .non e R' q, k1, fun _ _ _ _ _ _ _ z => z.elim, fun _ _ _ _ _ _ _ z => z.elim⟩⟩
end
/-! ### comprehensions whose elements keep the view -/
/-- a smaller view's objects stand in the larger one -/
theorem lcF {vs : List Nat} {ti : QI} {tg : QG} {tt : QT} {te : QE} {δ : TSt} {g : G} {Q : K1} {ts : List T} {kp : G → Prop} (F : T → Option T) (hti : ∀ R : Src → G → Prop, R ⟨ts, kp⟩ g → ti δ g R) (hkp : ∀ g', Sub g g' → kp g')
    (hel : ∀ t ∈ ts, ∀ (g' : G) (K : Option T → G → Prop), Sub g g' → K (F t) g' → tg t (wipeT δ vs) g' fun δ1 g1 => tt δ1 g1 fun b g2 => if b = true then te δ1 g2 fun y g3 => K (some y) g3 else K none g2)
    (hl : ts.length ≤ sizeLine) (hq : Q (.lst (ts.filterMap F)) g) : qFrz (qLc vs ti tg tt te) δ g Q := by
  unfold qFrz qLc
  refine hti _ fun D hD => ?_
  have go : ∀ (us : List T) (acc : List T), (∀ t ∈ us, t ∈ ts) → acc.length + us.length ≤ ts.length → acc ++ us.filterMap F = ts.filterMap F →
      wLc kp tg tt te D (wipeT δ vs) (fun g2 => match (T.ref D) with
        | .ref a => (match g2 a with
          | some (.lst ts) => Q (.lst ts) (gdel g2 a)
          | some (.dct kvs) => Q (.dct kvs) (gdel g2 a)
          | _ => Q (.ref a) g2)
        | d => Q d g2) us (gput g D (.lst acc)) := by
    intro us
    induction us with
    | nil =>
      intro acc _ _ e
      refine ⟨hkp _ (sub_put hD), ?_⟩
      simp only [gput_same]
      rw [gdel_put hD]
      simp at e
      rw [e]
      exact hq
    | cons t us ih =>
      intro acc hm hn e
      refine ⟨hkp _ (sub_put hD), ?_⟩
      have hlen : acc.length + us.length + 1 ≤ ts.length := by simp only [List.length_cons] at hn; omega
      refine hel t (hm t (List.mem_cons_self ..)) _ (fun o g3 => match o with
        | some y => ∃ acc, g3 D = some (.lst acc) ∧ acc.length < sizeLine ∧ wLc kp tg tt te D (wipeT δ vs) _ us (gput g3 D (.lst (acc ++ [y])))
        | none => wLc kp tg tt te D (wipeT δ vs) _ us g3) (sub_put hD) ?_
      cases hF : F t with
      | some y =>
        simp only
        refine ⟨acc, gput_same, by omega, ?_⟩
        rw [gput_put]
        refine ih (acc ++ [y]) (fun u hu => hm u (List.mem_cons_of_mem _ hu)) (by simp only [List.length_append, List.length_singleton]; omega) ?_
        rw [← e, List.filterMap_cons, hF, List.append_assoc]; rfl
      | none =>
        simp only
        refine ih acc (fun u hu => hm u (List.mem_cons_of_mem _ hu)) (by omega) ?_
        rw [← e, List.filterMap_cons, hF]
  exact go ts [] (fun t h => h) (by simp) (by simp)
end TL
set_option Elab.async false
set_option linter.all false
set_option maxRecDepth 100000
set_option maxHeartbeats 4000000
/-! TL24: what the printed derivations use. -/
namespace TL
open PySem PySem.Spec L2 PyProof.Rows
theorem u2 {k : Nat} {A : Around} (hr : Room k A) : A.units + 2 < cLine := by have := hr.un; omega
theorem u9 {k : Nat} {A : Around} (hr : Room k A) : A.units + 9 < cLine := by have := hr.un; omega
theorem u64 {k : Nat} {A : Around} (hr : Room k A) : A.units + 64 < cLine := by have := hr.un; omega
theorem u65 {k : Nat} {A : Around} (hr : Room k A) : A.units + 65 < cLine := by have := hr.un; omega
/-- a def of the text: its address, its words, its promise (dts: its defaults) -/
structure Cal (P : Program) (w : World) (K : PySem.W.Frag) (mg : PySem.Str → Option Value) (base : Heap) (k : Nat) (x : PySem.Str) (ps : List PySem.Str) (dts : List T) (sp : TSp) : Prop where
  len : ∀ ds g Q E, sp ds g Q E → ds.length = ps.length
  ex : ∃ (f : Addr) (fd : FuncData) (dvs : List V) (ds : List Value), mg x = some (.ref f) ∧ PySem.W.keepIn K (.ref f) = true ∧ Binds K fd ps ds ∧ Vals dvs ds ∧ (∀ g H, TVs P w K g H dts dvs) ∧ FnT P w K mg base k f fd ps sp
section
variable {X : Cx} {k j : Nat} {x : PySem.Str} {ps : List PySem.Str} {dts : List T} {sp : TSp} {pos p : Pos} {e : Expr} {es : List Expr} {t : QA}
theorem q_callC (C : Cal X.prog X.w X.K X.mg X.base k x ps dts sp) (hr : Room j X.A) (hk : k ≤ j) (hg : Gl X x) (ha : PA X (e :: es) (lowA X t)) (hdb : (x == ("__debug__" : PySem.Str)) = false := by decide)
    (he : starEach (e :: es) X.env = (false, eval e X.env) :: starEach es X.env := by rfl) (hpl : (backTo pos (starEach es X.env)).any (·.1) = false := by rfl) :
    PE X (.Call (.Name x p) (e :: es) [] pos) (lowE X (qCall sp dts t)) := by
  obtain ⟨f, fd, dvs, ds, hm, hkp, hb, hd, hdt, F⟩ := C.ex
  refine PE.imp (pe_call F (hr.mono hk) hg hm hkp hb hd pass0 ha hdb he hpl) fun σ H Q ⟨δ, g, Q', S, R, h, kk⟩ => ?_
  refine ⟨δ, g, _, S, R, h, fun xs g1 vs H1 r e1 R1 q => ?_⟩
  exact ⟨xs ++ dts, g1, Q', noX, C.len _ _ _ _ q, r.app (hdt g1 H1), R1, q, kk.ext e1, fun _ _ _ _ _ _ z => z.elim⟩
/-- a module's constant whose token is not told -/
theorem q_gI {i : Int} {pos : Pos} (hg : Gl X x) (hm : ∃ t, X.mg x = some (.int i t)) (hd : (x == ("__debug__" : PySem.Str)) = false := by decide) : PE X (.Name x pos) (lowE X (qC (.int i))) := by
  obtain ⟨t, h⟩ := hm
  exact q_globI hg h hd
theorem q_gS {i : PySem.Str} {pos : Pos} (hg : Gl X x) (hm : ∃ t, X.mg x = some (.str i t)) (hd : (x == ("__debug__" : PySem.Str)) = false := by decide) : PE X (.Name x pos) (lowE X (qC (.str i))) := by
  obtain ⟨t, h⟩ := hm
  exact q_globS hg h hd
/-- sorted(x, key=f), f a def of the text -/
def qSortD (sp : TSp) (te : QE) : QE := fun δ g Q => te δ g fun d g1 => ∃ ts kf dep, itemsT g1 d = some ts ∧ ts.length ≤ sizeLine ∧ (∀ t ∈ ts, ∀ Q : K1, Q (kf t) g1 → sp [t] g1 Q noX) ∧ KeysOk dep kf ts ∧ dep ≤ 60 ∧
  ∀ ts' p, ts'.Perm ts → (ts'.Pairwise fun x y => ltB (kf y) (kf x) = false) → g1 p = none → Q (.ref p) (gput g1 p (.lst ts'))
theorem q_sortD {y : PySem.Str} {te : QE} {p2 kpos : Pos} (C : Cal X.prog X.w X.K X.mg X.base k x [y] [] sp) (hr : Room j X.A) (hk : k + 2 ≤ j) (hc : X.calm = true) (hg : Gl X "sorted") (hm : X.mg "sorted" = none) (hgx : Gl X x) (he : PE X e (lowE X te)) (hdb : (x == ("__debug__" : PySem.Str)) = false := by decide)
    (h1 : starEach [e] X.env = (false, eval e X.env) :: starEach [] X.env := by rfl) (h2 : backTo pos (starEach [e] X.env) = (false, eval e X.env) :: backTo pos (starEach [] X.env) := by rfl) (h3 : (backTo pos (starEach [e] X.env)).any (·.1) = false := by rfl) :
    PE X (.Call (.Name "sorted" p) [e] [⟨some "key", .Name x p2, kpos⟩] pos) (lowE X (qSortD sp te)) := by
  obtain ⟨f, fd, dvs, ds, hmf, hkp, hb, hd, hdt, F⟩ := C.ex
  have e0 : dvs = [] := by cases hdt (fun _ => none) (fun _ => none); rfl
  subst e0
  cases hd
  refine PE.imp (pe_callBK (cr_sortK (f := f) F (hr.mono hk) hb hc) hg hm PyProof.Rows.boot_sorted (pa_cons he pa_nil h1) (pk_cons (pe_glob (v := .ref f) hgx hmf rfl hdb) pk_nil) (by decide) (by decide) h2 h3 (by rfl) (by rfl) (by rfl)) fun σ H Q ⟨δ, g, Q', S, R, h, kk⟩ => ?_
  refine ⟨δ, g, _, S, R, h, fun d g1 v H1 r e R1 q => ?_⟩
  exact ⟨[d], [.ref f], g1, Q', .cons r .nil, .cons .ref .nil, R1, ⟨rfl, q⟩, kk.ext e⟩
/-- a value frozen as it is told -/
def frzK (Q : K1) : K1 := fun d g1 => match d with
  | .ref a => (match g1 a with
    | some (.lst ts) => Q (.lst ts) (gdel g1 a)
    | some (.dct kvs) => Q (.dct kvs) (gdel g1 a)
    | _ => Q (.ref a) g1)
  | d => Q d g1
theorem frz_ke {g : G} {H : Hp} {Q' : K1} {Q : VK} (k : KE X g H Q' Q) : KE X g H (frzK Q') Q := fun d g1 v H1 r e R1 q => by
  unfold frzK at q
  cases r with
  | @ref a =>
    simp only at q
    split at q
    · rename_i ts e1
      exact k _ _ _ _ (frz_lst R1 e1) (e.trans (Sub.ext sub_del)) (R1.sub sub_del) q
    · rename_i ts e1
      exact k _ _ _ _ (frz_dct R1 e1) (e.trans (Sub.ext sub_del)) (R1.sub sub_del) q
    · exact k _ _ _ _ .ref e R1 q
  | non => exact k _ _ _ _ .non e R1 q
  | bl => exact k _ _ _ _ .bl e R1 q
  | int => exact k _ _ _ _ .int e R1 q
  | str => exact k _ _ _ _ .str e R1 q
  | ty => exact k _ _ _ _ .ty e R1 q
  | tup a b c => exact k _ _ _ _ (.tup a b c) e R1 q
  | lst a b c => exact k _ _ _ _ (.lst a b c) e R1 q
  | dct a b c => exact k _ _ _ _ (.dct a b c) e R1 q
  | scr a b => exact k _ _ _ _ (.scr a b) e R1 q
  | scrK a => exact k _ _ _ _ (.scrK a) e R1 q
theorem qs_setLcF {i : Nat} {y : PySem.Str} {py : Pos} {elt tg iter : Expr} {ifs : List Expr} {scope : Scope} {own : List (PySem.Str × Nat)} {pos spos : Pos} {ti : QI} {tt : QG} {tc : QT} {te : QE} (hc : X.calm = true) (hN : X.N.Nodup) (hy : X.N[i]? = some y) (hyl : X.env.scope.names.lookup y = some .local)
    (hsw : swapsWith (.ListComp elt [⟨tg, iter, ifs, 0⟩] scope pos) (some (.Name y py)) spos.line X.env = pure true) (hi : PI X tg iter (lowI X ti)) (ok : BlkOk X.N X.env.scope scope own)
    (hg : ∀ (s : Shared) (H : Hp) (C : Addr) (cl : List (PySem.Str × Addr)) (fp : List Addr), PG (X.blk s H scope (compEnvC scope cl C X.env) fp) tg (lowGw X (own.map (·.2)) tt)) (ht : ∀ (s : Shared) (H : Hp) (C : Addr) (cl : List (PySem.Str × Addr)) (fp : List Addr), PTs (X.blk s H scope (compEnvC scope cl C X.env) fp) ifs (lowT X tc))
    (he : ∀ (s : Shared) (H : Hp) (C : Addr) (cl : List (PySem.Str × Addr)) (fp : List Addr), PE (X.blk s H scope (compEnvC scope cl C X.env) fp) elt (lowE X te)) (hs : ∀ x, foldedSetIterable iter X.env x = pure x := by intro _; rfl) :
    PS X (.Assign [.Name y py] (.ListComp elt [⟨tg, iter, ifs, 0⟩] scope pos) spos) (lowS X (qAsg (qFrz (qLc (own.map (·.2)) ti tt tc te)) (gtName i))) := by
  refine PS.imp (ps_setLc hc hN hy hyl hsw hi ok hg ht he hs) fun D σ H ⟨δ, g, D', S, R, h, k⟩ => ?_
  refine lc_low (Q := fun x H1 => gName i x σ H1 D.nx) ⟨δ, g, frzK fun d g1 => D'.nx (δ.set i (some d)) g1, S, R, h, frz_ke fun d g1 v H1 r e R1 q => k.nx _ _ _ _ ((S.mono e.stay).set r) e R1 q⟩
end
end TL
set_option Elab.async false
set_option linter.all false
set_option maxRecDepth 100000
set_option maxHeartbeats 4000000
/-! TL25: {k: v} with a tuple as its key; what is walked may be of two kinds. -/
namespace TL
open PySem PySem.Spec L2 PyProof.Rows
section
variable {X : Cx} {tg : Expr}
/-- what is walked is of the one kind or of the other one -/
def iOr (t u : QI) : QI := fun δ g R => t δ g R ∨ u δ g R
theorem qi_or {it : Expr} {t u : QI} (h : PI X tg it (lowI X t)) (h2 : PI X tg it (lowI X u)) : PI X tg it (lowI X (iOr t u)) :=
  ⟨fun pins s σ H R I ⟨δ, g, R', S, Rg, q, k⟩ => q.elim (fun q => h.run pins s σ H R I ⟨δ, g, R', S, Rg, q, k⟩) (fun q => h2.run pins s σ H R I ⟨δ, g, R', S, Rg, q, k⟩)⟩
/-- {k: v}, k a tuple -/
def qDict1 (tk tv : QE) : QE := fun δ g Q => ∀ p, g p = none → tk δ (gput g p (.dct [])) fun k g1 => tv δ g1 fun v g2 => tupK k = true ∧ g2 p = some (.dct []) ∧ Q (.ref p) (gput g2 p (.dct [(k, v)]))
theorem q_dict1 {ek ev : Expr} {tk tv : QE} {pos : Pos} (hu : X.A.units + 9 < cLine) (hk : PE X ek (lowE X tk)) (hv : PE X ev (lowE X tv)) : PE X (.Dict [some ek] [ev] pos) (lowE X (qDict1 tk tv)) := by
  refine ⟨fun pins s σ H Q I ⟨δ, g, Q', S, R, q, k⟩ => ?_⟩
  have hn := I.hok.fresh (Nat.le_refl s.heap.objs.size)
  have I1 := I.laid (a := s.heap.objs.size) (o := .dK []) (h' := s.heap.push { cls := .type "dict", data := .dict #[] }) (t' := s.toks) (fun _ _ q => Heap.get?_push_of_some _ q) (Nat.le_refl _) (dk_empty s.heap I.big)
  have gn := R.fresh hn
  have e1 : Ext g H (gput g s.heap.objs.size (.dct [])) (upd H s.heap.objs.size (.dK [])) := Ext.newG hn
  have R1 := R.newG hn (o := .dK []) (u := .dct []) (.dct upd_same (.k .nil))
  have S1 := S.mono e1.stay
  have hw := (pps_cons (pos := pos) hk hv pps_nil).run pins _ σ _ (fun ps H2 => ∃ kt t x y g2, ps = [(x, y)] ∧ TV X.prog X.w X.K g2 H2 kt x ∧ TV X.prog X.w X.K g2 H2 t y ∧ RG X.prog X.w X.K g2 H2 ∧ Ext g H g2 H2 ∧ tupK kt = true ∧ g2 s.heap.objs.size = some (.dct []) ∧ Q' (.ref s.heap.objs.size) (gput g2 s.heap.objs.size (.dct [(kt, t)]))) I1
    ⟨δ, _, _, S1, R1, q _ gn, fun kt g1 x H1 rx e R2 q1 => ⟨δ, g1, _, S1.mono e.stay, R2, q1, fun t g2 y H2 ry e' R3 ⟨h1, h2, h3⟩ =>
      ⟨kt, t, x, y, g2, rfl, rx.mono e'.stay, ry, R3, e1.trans (e.trans e'), h1, h2, h3⟩⟩⟩
  rw [arm_eval_Dict, zip_pairTrees [some ek] [ev] X.env pos rfl rfl, dictDisplay_pairs _ (by simp [pairTrees]) (by simp [pairTrees])]
  refine wpAny_bind (wpAny_standAt (wpAny_bind (wpAny_subDictH (knd := nestedKind X.prog X.w) (Q := fun d s' => wpAny (model X.prog X.w) X.A (pure (Value.ref d)) _ X.xe s') (by show X.A.units + 8 < cLine; omega) (by simp [pairTrees]) (thn hw fun ws s2 ⟨ps, H2, I2, rel, kt, t, x, y, g2, ep, rx, ry, R3, e, ht, hg2, hq⟩ => ?_))))
  subst ep
  cases rel with
  | @cons a b as bs h hn2 =>
  cases hn2
  obtain ⟨hb1, hb2⟩ := h
  obtain ⟨b1, b2⟩ := b
  simp only at hb1 hb2
  cases R3 _ _ hg2 with
  | @dct _ u eu d =>
  obtain ⟨⟨xs, q1, dd, hz⟩, hs⟩ := dnest I2.hok (.inl eu) d rfl
  cases q1
  obtain ⟨nk, en, hd⟩ := tupK_get ht
  obtain ⟨b, rfl⟩ := tup_ref rx ht
  cases hb1
  have hki : (nestedKind X.prog X.w).is s2.heap nk b := ⟨TV.nested I2.hok _ _ _ _ rx en rfl, hd⟩
  refine ⟨[(nk, b, b2)], ⟨rfl, rfl, hki, trivial⟩, dd, fun h' tk dd' hs' => wpAny_pure ?_⟩
  obtain ⟨o, es, ep, w1, w2, w3, w4, _, w5⟩ := dd'
  have q3 : NVs X.prog X.w X.K g2 H2 [(kt, t)] [(nk, b, b2)] := .cons en rx hd hb2 ry .nil
  obtain ⟨z1, z2, z3⟩ := dt_done (tk := tk) (kvs' := [(kt, t)]) I2 R3 hg2 eu d hs' ⟨o, w1⟩ (dn_ok (xs := [(nk, b, b2)]) ⟨o, es, ep, w1, w2, w3, w4, w5⟩ (by rw [sizeLine_eq]; simp) hs) (.n q3)
  exact ⟨.ref s.heap.objs.size, _, z1, rfl, k _ _ _ _ .ref (e.trans z2) z3 hq⟩
end
end TL
set_option Elab.async false
set_option linter.all false
set_option maxRecDepth 100000
set_option maxHeartbeats 4000000
/-! TL26: a def made within a def, handed to sorted as its key, whose one parameter is a cell of its own (a comprehension within it uses it). -/
namespace TL
open PySem PySem.Spec L2 PyProof.Rows PySem.W SrtO LamX NdefX
/-- the names of such a def: its one parameter, the captured ones, its locals -/
structure CScope (N ps fr : List PySem.Str) (sc : Scope) : Prop where
  kind : sc.kind = .function
  co : sc.isCoroutine = false
  gen : sc.isGenerator = false
  nd : N.Nodup
  pre : N.take (ps.length + fr.length) = ps ++ fr
  par : ∃ x, ps = [x] ∧ sc.names.lookup x = some .cell ∧ (∀ y, sc.names.lookup y = some .cell → y = x) ∧ (∀ n acc, cellsFrom n sc.names acc = (x, n) :: acc) ∧ ∀ h, pushCells h sc.names = h.push { cls := .type "cell", data := .cell none }
  free : ∀ y ∈ sc.names, y.2 = .free → y.1 ∈ fr
  frk : ∀ x ∈ fr, sc.names.lookup x = some .free
theorem one_cell {l : List (PySem.Str × NameKind)} {x : PySem.Str} (h : (l.all fun y => !decide (y.2 = .cell) || decide (y.1 = x)) = true) : ∀ y, l.lookup y = some .cell → y = x := fun y e => by
  have q := (List.all_eq_true.mp h) _ (PySem.mem_of_lookup e)
  simpa using q
abbrev envC (F : NF) (f L : Addr) : Env := PySem.W.envX F.qual F.scope L f (.ref F.c) (cellsFrom (L + 1) F.scope.names F.cl)
def ncxC (CX : CXT) (P : Program) (w : World) (K : PySem.W.Frag) (mg : PySem.Str → Option Value) (base : Heap) (N : List PySem.Str) (F : NF) (f : Addr) (A : Around) (outer : List Env) (s : Shared) (H : Hp) (E : XK) : Cx :=
  { ncx CX P w K mg base N F f A outer s H E with
    A := A.deeper (envC F f s.heap.objs.size)
    env := envC F f s.heap.objs.size
    stack := envC F f s.heap.objs.size :: outer
    xe := fun e s' => wpAny (model P w) (A.deeper (envC F f s.heap.objs.size)) (leaving (envC F f s.heap.objs.size) e) (fun _ s'' => CX outer H s E e s'') (fun e' s'' => CX outer H s E e' s'') s' }
section
variable {CX : CXT} {P : Program} {w : World} {K : PySem.W.Frag} {mg : PySem.Str → Option Value} {base : Heap} {N ps fr : List PySem.Str} {F : NF} {f : Addr} {A : Around} {outer : List Env} {s : Shared} {H : Hp} {E : XK} {us : List Value} {vs : List V} {ws : List (Option V)}
theorem inv_startC {h₁ : Heap} {tk : Nat} (S : CScope N ps fr F.scope) (hd : A.handled = none) (e0 : Env0 P w K mg base A outer s H) (hl : vs.length = ps.length) (r : Vals vs us) (C : CellsAt F.cl fr ws s.heap H) {m : PySem.Str → Option Value} (hns : h₁.Ns s.heap.objs.size m)
    (hcell : ∀ u, us = [u] → h₁.IsCell (s.heap.objs.size + 1) (some u))
    (kp : ∀ b o, s.heap.get? b = some o → h₁.get? b = some o) : Inv (ncxC CX P w K mg base N F f A outer s H E) [] (startF N vs ws) H { s with heap := h₁, toks := tk } := by
  obtain ⟨x, rfl, hx, hone, hcf, _⟩ := S.par
  have hpl : [x].length + fr.length ≤ N.length := by
    have q := congrArg List.length S.pre
    rw [List.length_take, List.length_append] at q
    omega
  have noA : ∀ b : Addr, b ∉ (ncxC CX P w K mg base N F f A outer s H E).ex := fun b z => absurd (show b ∈ ([] : List Addr) from z) (by simp)
  have cellK : ∀ {c : Addr} {v : Option Value}, s.heap.IsCell c v → h₁.IsCell c v := fun {c v} ⟨o, ho, hd⟩ => ⟨o, kp _ _ ho, hd⟩
  have hcl : (envC F f s.heap.objs.size).cells = (x, s.heap.objs.size + 1) :: F.cl := hcf _ _
  have old : ∀ y c, F.cl.lookup y = some c → c < s.heap.objs.size := fun y c e => by
    obtain ⟨v, z⟩ := (C.all y c e).2
    exact z.lt
  have lk : ∀ y c, (envC F f s.heap.objs.size).cells.lookup y = some c → (y = x ∧ c = s.heap.objs.size + 1) ∨ F.cl.lookup y = some c := fun y c e => by
    rw [hcl, List.lookup_cons] at e
    split at e
    · rename_i hb
      cases e
      exact .inl ⟨beq_iff_eq.mp hb, rfl⟩
    · exact .inr e
  have lx : (envC F f s.heap.objs.size).cells.lookup x = some (s.heap.objs.size + 1) := by rw [hcl, List.lookup_cons]; simp
  have ln : ∀ y, y ≠ x → (envC F f s.heap.objs.size).cells.lookup y = F.cl.lookup y := fun y n => by
    rw [hcl, List.lookup_cons]
    have : (y == x) = false := by simpa using n
    rw [this]
  obtain ⟨v0, rfl⟩ : ∃ v, vs = [v] := by
    match vs, hl with
    | [v], _ => exact ⟨v, rfl⟩
  obtain ⟨u0, rfl, ru0⟩ := L2.Vals.one r
  have hc0 := hcell u0 rfl
  refine ⟨⟨e0.mod, S.kind, rfl, rfl, Nat.le_refl _, fun y z c h1 h2 => ?_, fun y hy => ?_, fun y c z _ => ?_, fun _ => hd, Around.frames_deeper e0.frames, .inr ⟨rfl, rfl⟩, fun b z => absurd z (noA b), e0.bs, e0.bsz, fun b _ _ => noA b,
      fun b z => absurd z (noA b), e0.funs, e0.frf⟩,
    rfl, e0.bare, Un.kept kp, ⟨_, hns, fun i y v e1 e2 e3 => ?_⟩, fun y c e => ?_, e0.hok.fresh (Nat.le_refl _), fun y c e => ?_, fun q hq => absurd (show q ∈ ([] : List (Addr × Obj)) ++ [] from hq) (by simp), e0.hok.kept kp, ?_⟩
  · rcases lk y c h1 with ⟨a1, a2⟩ | a
    · rcases lk z c h2 with ⟨b1, b2⟩ | b
      · rw [a1, b1]
      · exact absurd (old z c b) (by rw [a2]; exact Nat.not_lt_of_lt (Nat.lt_succ_self _))
    · rcases lk z c h2 with ⟨b1, b2⟩ | b
      · exact absurd (old y c a) (by rw [b2]; exact Nat.not_lt_of_lt (Nat.lt_succ_self _))
      · exact C.inj y z c a b
  · have hy : F.scope.names.lookup y = some .cell ∨ F.scope.names.lookup y = some .free := hy
    rcases hy with hy | hy
    · rw [hone y hy]; exact ⟨_, lx⟩
    · obtain ⟨i, hi⟩ := List.mem_iff_getElem?.mp (S.free _ (PySem.mem_of_lookup hy) rfl)
      obtain ⟨c, hc, _⟩ := C.has i y hi
      exact ⟨c, (ln y (fun z => by rw [z, hx] at hy; cases hy)).trans hc⟩
  · have z : false = true := z
    cases z
  · have e1 : N[i]? = some y := e1
    have clen := C.len
    unfold startF at e2
    by_cases h1 : i < [x].length
    · have hi : i = 0 := by simp at h1; exact h1
      subst hi
      have hq : ([x] ++ fr)[0]? = some y := by
        rw [← S.pre, List.getElem?_take_of_lt (by simp only [List.length_singleton]; omega)]
        exact e1
      simp at hq
      subst hq
      have : v0 = v := by simpa using e2
      subst this
      exact ⟨u0, ru0, .inr ⟨.inl hx, _, lx, hc0⟩⟩
    · rw [List.getElem?_append_right (by have h1' := h1; simp only [List.length_map, List.length_singleton] at h1' ⊢; omega), List.length_map] at e2
      by_cases h2 : i < [x].length + fr.length
      · have hq : ([x] ++ fr)[i]? = some y := by
          rw [← S.pre, List.getElem?_take_of_lt (by omega)]
          exact e1
        rw [List.getElem?_append_right (by omega)] at hq
        rw [List.getElem?_append_left (by simp only [List.length_singleton] at *; omega), hl] at e2
        obtain ⟨c, hc, hv⟩ := C.has (i - [x].length) y hq
        obtain ⟨u, ru, hu⟩ := hv v e2
        have hf := S.frk y (List.mem_of_getElem? hq)
        exact ⟨u, ru, .inr ⟨.inr hf, c, (ln y (fun z => by rw [z, hx] at hf; cases hf)).trans hc, cellK hu⟩⟩
      · rw [List.getElem?_append_right (by simp only [List.length_singleton] at *; omega), List.getElem?_replicate] at e2
        split at e2 <;> cases e2
  · rcases lk y c e with ⟨_, rfl⟩ | a
    · exact ⟨_, hc0⟩
    · obtain ⟨v, z⟩ := (C.all y c a).2
      exact ⟨v, cellK z⟩
  · rcases lk y c e with ⟨_, rfl⟩ | a
    · exact e0.hok.fresh (Nat.le_succ _)
    · exact (C.all y c a).1
  · have clen := C.len
    unfold startF
    show _ = N.length
    simp only [List.length_singleton] at hpl
    simp only [List.length_append, List.length_map, List.length_replicate, List.length_singleton]
    omega
end
section
variable {M : Model} {A : Around} {E : Value → Shared → Prop} {s : Shared}
/-- the new frame with its one cell -/
theorem newEnvC {scope : Scope} {globals : Addr} {closure : List (PySem.Str × Addr)} {x : PySem.Str} {u : Value} {qual : PySem.Str} {func : Option Addr} {code : Value} {builtins : Addr} {Q : Env → Shared → Prop}
    (hk : scope.kind = .function) (hx : scope.names.lookup x = some .cell) (hcf : ∀ n acc, cellsFrom n scope.names acc = (x, n) :: acc) (hpc : ∀ h, pushCells h scope.names = h.push { cls := .type "cell", data := .cell none })
    (hQ : ∀ h' m, h'.Ns s.heap.objs.size m → h'.IsCell (s.heap.objs.size + 1) (some u) → (∀ b o, s.heap.get? b = some o → h'.get? b = some o) → Q (newEnv scope s.heap.objs.size globals (cellsFrom (s.heap.objs.size + 1) scope.names closure) qual func code none builtins) { s with heap := h' }) :
    wpAny M A (newFunctionEnv scope globals closure [(x, u)] qual func code none builtins) Q E s := by
  simp only [newFunctionEnv, Option.isSome_none, Bool.false_eq_true, if_false]
  refine wpAny_bind (wpAny_alloc ?_)
  refine wpAny_bind (wpAny_layCells _ (fun name kind cells => by cases hkc : kind == NameKind.cell <;> simp [hkc]) _ _ _ _ ?_)
  rw [show ({ s with heap := s.heap.push { cls := .type "frame", data := .dict #[] } } : Shared).heap.objs.size = s.heap.objs.size + 1 from Heap.size_push ..]
  have hz : (s.heap.push { cls := .type "frame", data := .dict #[] }).objs.size = s.heap.objs.size + 1 := Heap.size_push ..
  have hc0 : (pushCells (s.heap.push { cls := .type "frame", data := .dict #[] }) scope.names).IsCell (s.heap.objs.size + 1) none := by
    rw [hpc, ← hz]
    exact ⟨_, Heap.get?_push_size _ rfl, rfl⟩
  refine wpAny_bind ?_
  rw [List.forIn_cons]
  refine wpAny_bind (wpAny_bind (wpAny_storeName_cell (c := s.heap.objs.size + 1) (v₀ := none) hk hx (by show (cellsFrom _ scope.names closure).lookup x = _; rw [hcf, List.lookup_cons]; simp) hc0 fun h' h1 h2 => ?_))
  refine wpAny_pure ?_
  simp only [List.forIn_nil]
  refine wpAny_pure (wpAny_pure (hQ h' _ (((Heap.Ns.new s.heap (.type "frame")).keeps (pushCells_keeps _ _)).sameBut h2 (Nat.ne_of_lt (Nat.lt_succ_self _))) h1 fun b o e => ?_))
  exact (h2.2 b (Nat.ne_of_lt (Nat.lt_succ_of_lt (Heap.lt_size e)))).trans (pushCells_keeps _ _ b o (Heap.get?_push_of_some _ e))
end
section
variable {X : Cx} {pins : List (Addr × Obj)} {σ : L2.St} {H : Hp} {s : Shared} {g : G}
/-- the closure called from within a built-in of the frame that made it -/
theorem run_cloC {A : Around} {E : Value → Shared → Prop} {k : Nat} {f : Addr} {F : NF} {N ps fr : List PySem.Str} {js : List Nat} {Q : VK} {us : List Value} {vs : List V} {t : L2.TS} (S : CScope N ps fr F.scope) (hb : ∀ (doc pm ctv : Value) (us : List Value), us.length = ps.length → bindArgs (F.fd doc pm ctv) ⟨us, []⟩ = pure (ps.zip us))
    (hr : Room (k + 1) A) (e0 : Env0 X.prog X.w X.K X.mg X.base A X.stack s H) (I : Inv X pins σ H s) (hf : H f = some (FnO f F)) (hc : Rd H F.c (CodeO F.c F.qual)) (cp : Caps X F.cl fr js) (r : Vals vs us) (hl : vs.length = ps.length)
    (ht : Room k (A.deeper (envC F f s.heap.objs.size)) → PSs (ncxC CX0 X.prog X.w X.K X.mg X.base N F f A X.stack s H fun _ _ _ => False) F.body t) (hq : t { nx := fun _ H' => Q .non H', rt := Q } (startF N vs (js.map (slotAt σ))) H) : wpAny (model X.prog X.w) A (call (.ref f) us) (EP X pins σ Q) E s := by
  have C : CellsAt F.cl fr (js.map (slotAt σ)) s.heap H := cells_of I cp
  have lim : s.heap.NoLimit := e0.mod.nolimit.keeps fun b o e => (e0.bs b o e).1
  obtain ⟨od, sl, doc, pm, ctv, ho⟩ := fnO_at e0.hok hf
  have rc : codeAny (model X.prog X.w) A (.call (.ref f) ⟨us, []⟩) (CR CX0 X.stack X.prog X.w H s Q fun _ _ _ => False) s := by
    refine codeAny_call_function hr.depth ho rfl S.co S.gen rfl (rd_code e0.hok hc) ?_
    rw [hb doc pm ctv us (by rw [← r.length]; exact hl)]
    obtain ⟨x, hps, hx, _, hcf, hpc⟩ := S.par
    obtain ⟨u0, hu0⟩ : ∃ u, us = [u] := by
      have h1 : us.length = 1 := by rw [← r.length, hl, hps]; rfl
      match us, h1 with
      | [u], _ => exact ⟨u, rfl⟩
    rw [hps, hu0]
    refine wpAny_pure (newEnvC S.kind hx hcf hpc fun h₁ m hns hcl kp => ⟨lim.keeps kp, ?_⟩)
    show codeAny _ _ (.func F.body (envC F f s.heap.objs.size)) _ _
    refine codeAny_func ?_
    have J : Inv (ncxC CX0 X.prog X.w X.K X.mg X.base N F f A X.stack s H fun _ _ _ => False) [] (startF N vs (js.map (slotAt σ))) H { s with heap := h₁ } := inv_startC (tk := s.toks) S hr.hd e0 hl r C hns (fun u hu => by rw [hu0] at hu; cases hu; exact hcl) kp
    refine wpAny_mono ((ht (hr.deeper _)).run [] _ (startF N vs (js.map (slotAt σ))) H _ J hq) (fun fl s' hs => ?_) fun e s' hs => hs
    have fin : ∀ {σ' : L2.St} {H' : Hp} {v : V} {u : Value}, Inv (ncxC CX0 X.prog X.w X.K X.mg X.base N F f A X.stack s H fun _ _ _ => False) [] σ' H' s' → L2.RelV v u → Q v H' → CE X.stack X.prog X.w H s Q u s' :=
      fun {σ' H' v u} J rv q => ⟨v, H', J.os, J.bare, J.base, J.hok, rv, q⟩
    cases fl with
    | ret u =>
      obtain ⟨v, σ', H', J, rv, q⟩ := hs
      exact fin J rv q
    | next =>
      obtain ⟨σ', H', J, q⟩ := hs
      exact fin (v := V.non) (u := Value.none) J rfl q
    | brk =>
      obtain ⟨_, _, _, q⟩ := hs
      exact False.elim q
    | cont =>
      obtain ⟨_, _, _, q⟩ := hs
      exact False.elim q
  refine wpAny_call (codeAny_mono rc fun r s' hq => ?_)
  cases r with
  | error e => exact False.elim hq
  | ok fl =>
    cases fl with
    | ret u => exact I.after hq
    | next => exact False.elim hq
    | brk => exact False.elim hq
    | cont => exact False.elim hq
end

section
variable {X : Cx}
theorem clo_sortC {pins : List (Addr × Obj)} {σ : L2.St} {H : Hp} {s : Shared} {g : G} {f : Addr} {F : NF} {δ : TSt} {d : T} {dv : V} {u : Value} {k dep : Nat} {N ps fr : List PySem.Str} {js : List Nat} {tb : QS} {ts : List T} {kf : T → T} {Q' : K1} {Q : VK}
    (S : CScope N ps fr F.scope) (hps : ps.length = 1) (hb : ∀ (doc pm ctv : Value) (us : List Value), us.length = ps.length → bindArgs (F.fd doc pm ctv) ⟨us, []⟩ = pure (ps.zip us)) (hr : Room (k + 3) X.A) (hc : X.calm = true) (cp : X.Ok → Caps X F.cl fr js)
    (hbody : ∀ (A : Around) (outer : List Env) (s : Shared) (H : Hp) (E : XK), Room k (A.deeper (envC F f s.heap.objs.size)) → PSs (ncxC CX0 X.prog X.w X.K X.mg X.base N F f A outer s H E) F.body (lowS X tb))
    (I : Inv X pins σ H s) (SS : StR X.prog X.w X.K g H δ σ) (rd : TV X.prog X.w X.K g H d dv) (ru : L2.RelV dv u) (R : RG X.prog X.w X.K g H) (gf : g f = some (.fn F)) (hit : itemsT g d = some ts) (hz : ts.length ≤ sizeLine)
    (hsp : ∀ t ∈ ts, ∀ Q : K1, Q (kf t) g → tb { nx := fun _ g' => Q .non g', rt := Q } (startC N t (caps δ js)) g) (hK : KeysOk dep kf ts) (hdep : dep ≤ 60)
    (hq : ∀ ts' p, ts'.Perm ts → (ts'.Pairwise fun x y => ltB (kf y) (kf x) = false) → g p = none → Q' (.ref p) (gput (gdel g f) p (.lst ts'))) (kk : KE X (gdel g f) H Q' Q) :
    wpAny (model X.prog X.w) X.A (call (.builtin "sorted") [u] [(PySem.Str.ofString "key", .ref f)]) (EP X pins σ Q) X.xe s := by
  have hfH : H f = some (FnO f F) := by cases R f _ gf with | fn a1 _ _ => exact a1
  refine call_function_entry_kw kind_sorted plain_sorted entry_sorted (PyProof.Rows.ksk_s1 _ _) ?_
  unfold Builtin.«sorted»
  refine wpAny_bind (m := checkCount "sorted" 1 1 _) (wpAny_pure ?_)
  refine wpAny_bind (collect_items (A := X.A.in1) (I.ok.hd hc) I R rd ru hit hz fun h' tk xs vs kp rv rt => ?_)
  have hvl : vs.length = ts.length := by rw [← rv.length, ← rt.len]
  refine wpAny_bind (wpAny_newList ?_ (by show vs.length ≤ _; omega))
  have I1 : Inv X pins σ H { s with heap := h', toks := tk } := I.kept kp
  have I2 : Inv X pins σ H { s with heap := h'.push (seqObj "list" vs.toArray 0), toks := tk } := I1.kept (t' := tk) fun b o e => Heap.get?_push_of_some _ e
  have fa : FpOk X pins H h'.objs.size := I1.fpOk (Nat.le_refl _) (I1.hok.fresh (Nat.le_refl _))
  have hoL : (h'.push (seqObj "list" vs.toArray 0)).get? h'.objs.size = some (seqObj "list" vs.toArray 0) := Heap.get?_push_size _ rfl
  refine wpAny_bind (wpAny_holding (wpAny_call_entry_kw slot_list_sort ⟨_, hoL, rfl⟩ entry_list_sort ?_ (PyProof.Rows.ksk_l1 _ _)))
  rw [ksk_t1]
  have hu := hr.un
  refine keyed_tree (s := { s with heap := h'.push (seqObj "list" vs.toArray 0), toks := tk }) (A := X.A.in1.in1) (fun pins' s' H' x v t hm J eH RH tv rx => ?_) I2 R fa hoL rv rt hz hK (by show X.A.units + 1 + 1 + dep + dep + 4 < cLine; omega) fun s' H' ts' xs' vs' c J eH RH fa' ho' rv' rt' hp hw => ⟨_, rfl, ?_⟩
  · cases RH f _ gf with
    | fn a1 a2 a3 =>
      refine run_cloC (F := F) (js := js) (N := N) (ps := ps) (fr := fr) (k := k) (t := lowS X tb) S hb (hr.in1.in1) (J.env0.in1.in1) J a1 a3 (cp J.ok) (.cons rx .nil) (by rw [hps]; rfl) (fun hrm => hbody _ _ _ _ _ hrm) ?_
      refine ⟨startC N t (caps δ js), g, _, startC_r (SS.mono eH.stay) tv, RH, hsp t hm (fun d g2 => d = kf t ∧ g2 = g) ⟨rfl, rfl⟩, ⟨fun δ1 g1 σ1 H1 S1 e1 R1 q1 => ?_, fun d1 g1 v1 H1 r1 e1 R1 q1 => ?_, fun _ _ _ _ _ _ _ z => z.elim, fun _ _ _ _ _ _ _ z => z.elim⟩⟩
      · obtain ⟨q1, rfl⟩ := q1
        exact ⟨q1 ▸ .non, e1, R1⟩
      · obtain ⟨rfl, rfl⟩ := q1
        exact ⟨r1, e1, R1⟩
  · refine wpAny_pure ⟨_, rfl, ?_⟩
    have hlen : xs'.length ≤ sizeLine := by rw [← rt'.len, hp.length_eq]; exact hz
    have J2 : Inv X pins σ (upd H' h'.objs.size (.lst xs')) s' := track (t' := s'.toks) (ch := [h'.objs.size]) J (fun b o _ e => e) (fun b hb => by
      have eb : b = h'.objs.size := by simpa using hb
      subst eb
      exact fa') (by simp) ⟨hlen, vs', c, rv', ho'⟩
    have RD : RG X.prog X.w X.K (gdel g f) H' := RH.sub sub_del
    have eD : Ext (gdel g f) H (gdel g f) H' := fun b o h1 h2 => by
      by_cases hb : b = f
      · subst hb
        rw [hfH] at h2
        cases h2
        have : H' b = some (FnO b F) := by cases RH b _ gf with | fn a1 _ _ => exact a1
        exact ⟨h1, .inl this⟩
      · rw [gdel_ne hb] at h1
        exact ⟨by rw [gdel_ne hb]; exact (eH b o h1 h2).1, (eH b o h1 h2).2⟩
    have rtD : TVs X.prog X.w X.K (gdel g f) H' ts' xs' := rt'.mono (Ext.stay (Sub.ext sub_del))
    exact ⟨.ref h'.objs.size, _, J2, rfl, kk _ _ _ _ .ref (eD.trans (Ext.newG fa'.1)) (RD.newG fa'.1 (.lst upd_same (rtD.mono (Ext.newG fa'.1).stay))) (hq ts' _ hp hw (RH.fresh fa'.1))⟩
theorem qss_ndefSortC {c P : Addr} {name : PySem.Str} {params : Arguments} {body : List Stmt} {scope : Scope} {pos p1 p2 p3 p4 p5 : Pos} {i k : Nat} {e : Expr} {te : QE} {tb : QS} {N ps fr : List PySem.Str} {js : List Nat} (TB : TabB X.base X.mg c P) (hcode : X.env.code = .ref c)
    (hfree : ∀ y ∈ scope.names, y.2 = .free → X.env.scope.names.lookup y.1 = some .cell ∨ X.env.scope.names.lookup y.1 = some .free) (hd0 : params.defaults = []) (hk0 : params.kw_defaults = []) (ha : annTrees params none X.env = [])
    (hN : X.N.Nodup) (hi : X.N[i]? = some name) (hx : Loc X.env.scope name) (hf : X.fn name = true ∨ X.env.scope.names.lookup name = some .local)
    (hnd : (name == ("__debug__" : PySem.Str)) = false) (hncd : (name == ("__classdict__" : PySem.Str)) = false)
    (S : CScope N ps fr scope) (hps : ps.length = 1) (hb : ∀ (q : PySem.Str) (cl : List (PySem.Str × Addr)) (doc pm cv ctv : Value) (us : List Value), us.length = ps.length → bindArgs (PySem.W.fnX name q params body scope cl .none .none doc pm none cv ctv) ⟨us, []⟩ = pure (ps.zip us))
    (hfr : ∀ y ∈ fr, (y, NameKind.free) ∈ scope.names) (hjs : js.map (fun j => X.N[j]?) = fr.map some) (hr : Room (k + 3) X.A) (hc : X.calm = true) (hg : Gl X "sorted") (hm : X.mg "sorted" = none)
    (he : PE X e (lowE X te)) (hbody : ∀ (F : NF) (f : Addr) (A : Around) (outer : List Env) (s : Shared) (H : Hp) (E : XK), F.scope = scope → F.body = body → Room k (A.deeper (envC F f s.heap.objs.size)) → PSs (ncxC CX0 X.prog X.w X.K X.mg X.base N F f A outer s H E) body (lowS X tb))
    (h1 : starEach [e] X.env = (false, eval e X.env) :: starEach [] X.env) (h2 : backTo p4 (starEach [e] X.env) = (false, eval e X.env) :: backTo p4 (starEach [] X.env)) (h3 : (backTo p4 (starEach [e] X.env)).any (·.1) = false) :
    PSs X [.FunctionDef name params body [] none [] scope none name pos, .Return (some (.Call (.Name "sorted" p1) [e] [⟨some "key", .Name name p2, p3⟩] p4)) p5] (lowS X (qNdSort P (X.env.qual ++ name) pos.line pos.col i N js te tb)) := by
  have hfrs : ∀ {ok : X.Ok}, ∀ y ∈ scope.names, y.2 = .free → ∃ c, X.env.cells.lookup y.1 = some c := fun {ok} y hy e => (hfree y hy e).elim (fun z => ok.has _ (.inl z)) fun z => ok.has _ (.inr z)
  have hvis : Vis X.env.scope name := hx.elim .inl fun z => .inr (.inl z)
  let mk : Addr → NF := fun c' => ⟨name, X.env.qual ++ name, params, body, scope, cloFrom X.env.cells scope.names [], c'⟩
  have sDef : PS X (.FunctionDef name params body [] none [] scope none name pos) (fun D σ H => ∃ g nm, RG X.prog X.w X.K g H ∧ g P = some (.tbl nm) ∧ nm pos.line pos.col = X.env.qual ++ name ∧
      ∀ f c' H1, Ext g H (gput g f (.fn (mk c'))) H1 → RG X.prog X.w X.K (gput g f (.fn (mk c'))) H1 → H f = none → D.nx (σ.set i (some (.ref f))) H1) := by
    refine ⟨fun pins s σ H D I ⟨g, nm, R, gP, hn, h⟩ => ?_⟩
    have hq : qualnameIn X.env name name = X.env.qual ++ name := by
      have hk : X.env.kindOf name = some .local ∨ X.env.kindOf name = some .cell := hx
      unfold qualnameIn
      rcases hk with k | k <;> rw [k] <;> first | rfl | exact if_neg (by decide)
    refine PySem.W.nestDef_K hd0 hk0 ha ?_
    rw [hq]
    refine ndef_mk I R TB hcode gP hn (hfrs (ok := I.ok)) fun f c' H1 s' I1 eE R1 f0 => ?_
    exact store_ok I1 hN hi hx (v := .ref f) rfl (fun s'' J => ⟨_, H1, J, h f c' H1 eE R1 f0⟩) hf
  have eSort := pe_callBKs (X := X) (x := "sorted") (p := p1) (pos := p4) (e := e) (es := []) (kws := [⟨some "key", .Name name p2, p3⟩]) (id := "sorted") (ks := [PySem.Str.ofString "key"])
    (r := fun σ xs zs H Q => ∃ (f c' : Addr) (δ : TSt) (d : T) (dv : V) (g : G) (Q' : K1) (ts : List T) (kf : T → T) (dep : Nat), xs = [dv] ∧ zs = [.ref f] ∧ StR X.prog X.w X.K g H δ σ ∧ TV X.prog X.w X.K g H d dv ∧ RG X.prog X.w X.K g H ∧ g f = some (.fn (mk c')) ∧ itemsT g d = some ts ∧ ts.length ≤ sizeLine ∧
      (∀ t ∈ ts, ∀ Q : K1, Q (kf t) g → tb { nx := fun _ g' => Q .non g', rt := Q } (startC N t (caps δ js)) g) ∧ KeysOk dep kf ts ∧ dep ≤ 60 ∧
      (∀ ts' p, ts'.Perm ts → (ts'.Pairwise fun x y => ltB (kf y) (kf x) = false) → g p = none → Q' (.ref p) (gput (gdel g f) p (.lst ts'))) ∧ KE X (gdel g f) H Q' Q)
    (fun pins s σ H xs zs us ws Q I rx rz h => by
      obtain ⟨f, c', δ, d, dv, g, Q', ts, kf, dep, rfl, rfl, SS, rd, R, gf, hit, hz, hsp, hK, hdep, hq, kk⟩ := h
      obtain ⟨u, rfl, ru⟩ := L2.Vals.one rx
      obtain ⟨w, rfl, rw'⟩ := L2.Vals.one rz
      cases rw'
      exact clo_sortC (F := mk c') S hps (fun doc pm ctv us hl => hb _ _ doc pm _ ctv us hl) hr hc (fun ok => Caps.made ok hfree hfr hjs) (fun A outer s H E hrm => hbody (mk c') f A outer s H E rfl rfl hrm) I SS rd ru R gf hit hz hsp hK hdep hq kk)
    hg hm PyProof.Rows.boot_sorted (pa_cons he pa_nil h1) (pk_cons (pe_var hi hvis hnd hncd) pk_nil) (by decide) (by decide) h2 h3 (by rfl) (by rfl) (by rfl)
  refine PSs.imp (pss_cons sDef (pss_one (ps_ret eSort))) fun D σ H ⟨δ, g, D', SS, R, ⟨⟨nm, gP, hn⟩, hil, h⟩, k'⟩ => ?_
  refine ⟨g, nm, R, gP, hn, fun f c' H1 e2 R2 f0 => ?_⟩
  have g0 : g f = none := R.fresh f0
  have SS2 : StR X.prog X.w X.K (gput g f (.fn (mk c'))) H1 (δ.set i (some (.ref f))) (σ.set i (some (.ref f))) := (SS.mono e2.stay).set .ref
  refine ⟨δ.set i (some (.ref f)), _, _, SS2, R2, h f (mk c') g0, fun d g1 v H2 r2 e3 R3 q => ?_⟩
  obtain ⟨gf, ts, kf, dep, hit, hz, hsp, hK, hdep, hq⟩ := q
  refine ⟨.ref f, ?_, f, c', δ.set i (some (.ref f)), d, v, g1, _, ts, kf, dep, rfl, rfl, SS2.mono e3.stay, r2, R3, gf, hit, hz, hsp, hK, hdep, hq, ?_⟩
  · rw [List.getElem?_set_self (by rw [← SS.1]; exact hil)]
  · exact k'.rt.ext ((e2.trans e3).trans (Sub.ext sub_del))
end
/-- a reading told of another frame of the same run -/
theorem ss_as {X Y : Cx} {b : List Stmt} {t : QS} (h : PSs Y b (lowS Y t)) (h1 : X.prog = Y.prog) (h2 : X.w = Y.w) (h3 : X.K = Y.K) : PSs Y b (lowS X t) := by
  refine PSs.imp h fun D σ H ⟨δ, g, D', S, R, q, k⟩ => ?_
  cases X
  cases Y
  simp only at h1 h2 h3
  subst h1
  subst h2
  subst h3
  exact ⟨δ, g, D', S, R, q, ⟨k.1, k.2, k.3, k.4⟩⟩
end TL
set_option Elab.async false
set_option linter.all false
set_option maxRecDepth 100000
set_option maxHeartbeats 4000000
/-! TL27: a def of the text, from its derivation and its plain proof. -/
namespace TL
open PySem PySem.Spec L2 PyProof.Rows
/-- the head tells the def: its words, its name, its parameters -/
structure Has (K : PySem.W.Frag) (mg : PySem.Str → Option Value) (st : Stmt) (x : PySem.Str) (ps : List PySem.Str) (f : Addr) : Prop where
  ex : ∃ fd, FunD K x x (defArgs st) (defBody st) (defScope st) [] [] f fd ∧ Binds K fd ps []
  nm : mg x = some (.ref f)
section
variable {P : Program} {w : World} {K : PySem.W.Frag} {mg : PySem.Str → Option Value} {base : Heap}
theorem calD {st : Stmt} {x : PySem.Str} {N ps : List PySem.Str} {f : Addr} {k : Nat} {sp : TSp} {t : QS} (h : Has K mg st x ps f) (S : FnScope N ps (defScope st))
    (hb : ∀ (cdv : Value) (A : Around) (outer : List Env) (s : Shared) (H : Hp) (E : XK), Room k (A.deeper (envOfC x (defScope st) s.heap.objs.size f cdv)) →
      PSs (cxD P w K mg base N x (defScope st) f cdv A outer s H E) (defBody st) (lowS (cxD P w K mg base N x (defScope st) f cdv A outer s H E) t))
    (len : ∀ ds g Q E, sp ds g Q E → ds.length = ps.length)
    (hp : ∀ ds g Q, sp ds g Q noX → t { nx := fun _ g' => Q .non g', rt := Q } (startT N ds) g)
    (hx : ∀ ds g Q E, sp ds g Q E → sp ds g Q noX) : Cal P w K mg base (k + 1) x ps [] sp := by
  obtain ⟨fd, F, hbd⟩ := h.ex
  exact ⟨len, f, fd, [], [], h.nm, F.kp, hbd, .nil, fun _ _ => .nil, fokD F S hb (fun ds g Q _ q => hp ds g Q q) hx⟩
/-- the same of a def that makes defs or lambdas -/
theorem calC {st : Stmt} {x : PySem.Str} {N ps : List PySem.Str} {p : PySem.Str × Option PySem.Str} {k : Nat} {sp : TSp} {t : QS} (h : Has K mg st x ps (He.fAd K p)) (S : FnScope N ps (defScope st))
    (hb : ∀ (A : Around) (outer : List Env) (s : Shared) (H : Hp) (E : XK), Room k (A.deeper (envOfC x (defScope st) s.heap.objs.size (He.fAd K p) (.ref (He.codeOf K p)))) →
      PSs (cxD P w K mg base N x (defScope st) (He.fAd K p) (.ref (He.codeOf K p)) A outer s H E) (defBody st) (lowS (cxD P w K mg base N x (defScope st) (He.fAd K p) (.ref (He.codeOf K p)) A outer s H E) t))
    (len : ∀ ds g Q E, sp ds g Q E → ds.length = ps.length)
    (hp : ∀ ds g Q, sp ds g Q noX → t { nx := fun _ g' => Q .non g', rt := Q } (startT N ds) g)
    (hx : ∀ ds g Q E, sp ds g Q E → sp ds g Q noX) : Cal P w K mg base (k + 1) x ps [] sp := by
  obtain ⟨fd, F, hbd⟩ := h.ex
  exact ⟨len, _, fd, [], [], h.nm, F.kp, hbd, .nil, fun _ _ => .nil, fokC F S hb (fun ds g Q _ q => hp ds g Q q) hx⟩
/-- no promise at all -/
theorem cal0 {st : Stmt} {x : PySem.Str} {ps : List PySem.Str} {f : Addr} {k : Nat} (h : Has K mg st x ps f) : Cal P w K mg base k x ps [] (fun _ _ _ _ => False) := by
  obtain ⟨fd, F, hbd⟩ := h.ex
  exact ⟨fun _ _ _ _ z => z.elim, f, fd, [], [], h.nm, F.kp, hbd, .nil, fun _ _ => .nil, ⟨fun vs H Q E ⟨_, _, _, _, _, _, _, z, _⟩ => z.elim, fun A outer s H args us vs Q E _ _ _ _ ⟨_, _, _, _, _, _, _, z, _⟩ => z.elim⟩⟩
end
/-- what a def answers, by its arguments, where pre holds; nothing is changed -/
def pS (n : Nat) (pre : List T → G → Prop) (f : List T → G → T) : TSp := fun ds g Q _ => ds.length = n ∧ pre ds g ∧ Q (f ds g) g
theorem pS_len {n : Nat} {pre : List T → G → Prop} {f : List T → G → T} : ∀ ds g Q E, pS n pre f ds g Q E → ds.length = n := fun _ _ _ _ h => h.1
theorem pS_x {n : Nat} {pre : List T → G → Prop} {f : List T → G → T} : ∀ ds g Q E, pS n pre f ds g Q E → pS n pre f ds g Q noX := fun _ _ _ _ h => h
end TL
set_option Elab.async false
set_option linter.all false
set_option maxRecDepth 100000
set_option maxHeartbeats 4000000
/-! TL28: loops by invariants; views that grow. -/
namespace TL
open PySem PySem.Spec L2 PyProof.Rows
theorem wFor_I {keep : G → Prop} {tg : QG} {tb : QS} {D : TEnds} (I : List T → TSt → G → Prop) (hk : ∀ us δ g, I us δ g → keep g)
    (step : ∀ t us δ g, I (t :: us) δ g → ∀ K : TSt → G → Prop, (∀ δ' g', I us δ' g' → K δ' g') → tg t δ g fun δ1 g1 => tb { D with nx := K, ct := K, bk := D.nx } δ1 g1)
    (fin : ∀ δ g, I [] δ g → D.nx δ g) : ∀ us δ g, I us δ g → wFor keep tg tb D us δ g
  | [], δ, g, h => ⟨hk _ _ _ h, fin δ g h⟩
  | t :: us, δ, g, h => ⟨hk _ _ _ h, step t us δ g h _ fun δ' g' h' => wFor_I I hk step fin us δ' g' h'⟩
theorem wWhile_I {tc : QT} {tb : QS} {D : TEnds} (I : Nat → TSt → G → Prop)
    (step : ∀ n δ g, I n δ g → ∃ b g1, (∀ R : Bool → G → Prop, R b g1 → tc δ g R) ∧ (if b = true then ∃ m, n = m + 1 ∧ ∀ K : TSt → G → Prop, (∀ δ' g', I m δ' g' → K δ' g') → tb { D with nx := K, ct := K, bk := D.nx } δ g1 else D.nx δ g1)) : ∀ n δ g, I n δ g → wWhile tc tb D (n + 1) δ g
  | n, δ, g, h => by
    obtain ⟨b, g1, h1, h2⟩ := step n δ g h
    refine h1 _ ?_
    cases b with
    | false => exact h2
    | true =>
      simp only [if_true] at h2 ⊢
      obtain ⟨m, rfl, z⟩ := h2
      exact z _ fun δ' g' h' => wWhile_I I step m δ' g' h'
/-- all but a stands -/
def Sub1 (a : Addr) (g g' : G) : Prop := ∀ b o, b ≠ a → g b = some o → g' b = some o
theorem Sub1.refl {a : Addr} {g : G} : Sub1 a g g := fun _ _ _ h => h
theorem Sub1.trans {a : Addr} {g g1 g2 : G} (h : Sub1 a g g1) (h2 : Sub1 a g1 g2) : Sub1 a g g2 := fun b o n e => h2 b o n (h b o n e)
theorem Sub1.put {a : Addr} {g : G} {o : GO} : Sub1 a g (gput g a o) := fun b u n e => by rw [gput_ne n]; exact e
theorem Sub.sub1 {a : Addr} {g g' : G} (h : Sub g g') : Sub1 a g g' := fun b o _ e => h b o e
theorem Sub1.sub {a : Addr} {g g' : G} (h : Sub1 a g g') (n : g a = Option.none) : Sub g g' := fun b o e => h b o (fun z => by rw [z, n] at e; cases e) e
theorem Sub1.put2 {a : Addr} {g g' : G} {o : GO} (h : Sub1 a g g') : Sub1 a g (gput g' a o) := h.trans Sub1.put
theorem Sub.put1 {a : Addr} {g g' : G} {o : GO} (h : Sub g g') (n : g a = Option.none) : Sub g (gput g' a o) := fun b u e => by
  have hb : b ≠ a := fun z => by rw [z, n] at e; cases e
  rw [gput_ne hb]; exact h b u e
theorem Sub.del1 {a : Addr} {g g' : G} (h : Sub g g') (n : g a = Option.none) : Sub g (gdel g' a) := fun b u e => by
  have hb : b ≠ a := fun z => by rw [z, n] at e; cases e
  rw [gdel_ne hb]; exact h b u e
theorem Sub1.del {a : Addr} {g g' : G} (h : Sub1 a g g') (n : g a = Option.none) : Sub g (gdel g' a) := fun b u e => by
  have hb : b ≠ a := fun z => by rw [z, n] at e; cases e
  rw [gdel_ne hb]; exact h b u hb e
theorem Sub.ne {g g' : G} {a b : Addr} {o : GO} (h : Sub g g') (e : g b = some o) (n : g' a = Option.none) : b ≠ a := fun z => by
  rw [z] at e; rw [h a o e] at n; cases n
theorem Sub1.none' {a p : Addr} {g g' : G} (h : Sub1 a g g') (n : g' p = Option.none) (hp : p ≠ a) : g p = Option.none := by
  cases e : g p with
  | none => rfl
  | some o => rw [h p o hp e] at n; cases n
theorem Sub1.delp {a p : Addr} {g g' : G} (h : Sub1 a g g') (n : g p = Option.none) : Sub1 a g (gdel g' p) := fun b o hb e => by
  have hbp : b ≠ p := fun z => by rw [z, n] at e; cases e
  rw [gdel_ne hbp]; exact h b o hb e
theorem Sub1.putp {a p : Addr} {g g' : G} {u : GO} (h : Sub1 a g g') (n : g p = Option.none) : Sub1 a g (gput g' p u) := fun b o hb e => by
  have hbp : b ≠ p := fun z => by rw [z, n] at e; cases e
  rw [gput_ne hbp]; exact h b o hb e
/-! ### freezing, as a step of the answer -/
theorem qFrz_k {t : QE} {δ : TSt} {g : G} {Q : K1} : qFrz t δ g Q = t δ g (frzK Q) := rfl
theorem frzK_lst {Q : K1} {g : G} {ts : List T} : frzK Q (.lst ts) g = Q (.lst ts) g := rfl
theorem frzK_dct {Q : K1} {g : G} {ts : List (T × T)} : frzK Q (.dct ts) g = Q (.dct ts) g := rfl
theorem frzK_tup {Q : K1} {g : G} {ts : List T} : frzK Q (.tup ts) g = Q (.tup ts) g := rfl
theorem frzK_refL {Q : K1} {g : G} {a : Addr} {ts : List T} (h : g a = some (.lst ts)) : frzK Q (.ref a) g = Q (.lst ts) (gdel g a) := by simp only [frzK, h]
theorem frzK_refD {Q : K1} {g : G} {a : Addr} {ts : List (T × T)} (h : g a = some (.dct ts)) : frzK Q (.ref a) g = Q (.dct ts) (gdel g a) := by simp only [frzK, h]
theorem frzK_putL {Q : K1} {g : G} {a : Addr} {ts : List T} (h : g a = none) : frzK Q (.ref a) (gput g a (.lst ts)) = Q (.lst ts) g := by rw [frzK_refL gput_same, gdel_put h]
theorem frzK_putD {Q : K1} {g : G} {a : Addr} {ts : List (T × T)} (h : g a = none) : frzK Q (.ref a) (gput g a (.dct ts)) = Q (.dct ts) g := by rw [frzK_refD gput_same, gdel_put h]
theorem lcK {vs : List Nat} {ti : QI} {tg : QG} {tt : QT} {te : QE} {δ : TSt} {g : G} {Q : K1} {ts : List T} {kp : G → Prop} (F : T → Option T) (hti : ∀ R : Src → G → Prop, R ⟨ts, kp⟩ g → ti δ g R) (hkp : ∀ g', Sub g g' → kp g')
    (hel : ∀ t ∈ ts, ∀ (g' : G) (K : Option T → G → Prop), Sub g g' → K (F t) g' → tg t (wipeT δ vs) g' fun δ1 g1 => tt δ1 g1 fun b g2 => if b = true then te δ1 g2 fun y g3 => K (some y) g3 else K none g2)
    (hl : ts.length ≤ sizeLine) (hq : Q (.lst (ts.filterMap F)) g) : qLc vs ti tg tt te δ g (frzK Q) := lcF F hti hkp hel hl hq
/-- a new list that stays changeable -/
theorem lcN {vs : List Nat} {ti : QI} {tg : QG} {tt : QT} {te : QE} {δ : TSt} {g : G} {Q : K1} {ts : List T} {kp : G → Prop} (F : T → Option T) (hti : ∀ R : Src → G → Prop, R ⟨ts, kp⟩ g → ti δ g R) (hkp : ∀ g', Sub g g' → kp g')
    (hel : ∀ t ∈ ts, ∀ (g' : G) (K : Option T → G → Prop), Sub g g' → K (F t) g' → tg t (wipeT δ vs) g' fun δ1 g1 => tt δ1 g1 fun b g2 => if b = true then te δ1 g2 fun y g3 => K (some y) g3 else K none g2)
    (hl : ts.length ≤ sizeLine) (hq : ∀ D, g D = none → Q (.ref D) (gput g D (.lst (ts.filterMap F)))) : qLc vs ti tg tt te δ g Q := by
  unfold qLc
  refine hti _ fun D hD => ?_
  have go : ∀ (us : List T) (acc : List T), (∀ t ∈ us, t ∈ ts) → acc.length + us.length ≤ ts.length → acc ++ us.filterMap F = ts.filterMap F →
      wLc kp tg tt te D (wipeT δ vs) (fun g2 => Q (.ref D) g2) us (gput g D (.lst acc)) := by
    intro us
    induction us with
    | nil =>
      intro acc _ _ e
      refine ⟨hkp _ (sub_put hD), ?_⟩
      simp at e
      rw [e]
      exact hq D hD
    | cons t us ih =>
      intro acc hm hn e
      refine ⟨hkp _ (sub_put hD), ?_⟩
      have hlen : acc.length + us.length + 1 ≤ ts.length := by simp only [List.length_cons] at hn; omega
      refine hel t (hm t (List.mem_cons_self ..)) _ (fun o g3 => match o with
        | some y => ∃ acc, g3 D = some (.lst acc) ∧ acc.length < sizeLine ∧ wLc kp tg tt te D (wipeT δ vs) _ us (gput g3 D (.lst (acc ++ [y])))
        | none => wLc kp tg tt te D (wipeT δ vs) _ us g3) (sub_put hD) ?_
      cases hF : F t with
      | some y =>
        simp only
        refine ⟨acc, gput_same, by omega, ?_⟩
        rw [gput_put]
        refine ih (acc ++ [y]) (fun u hu => hm u (List.mem_cons_of_mem _ hu)) (by simp only [List.length_append, List.length_singleton]; omega) ?_
        rw [← e, List.filterMap_cons, hF, List.append_assoc]; rfl
      | none =>
        simp only
        refine ih acc (fun u hu => hm u (List.mem_cons_of_mem _ hu)) (by omega) ?_
        rw [← e, List.filterMap_cons, hF]
  exact go ts [] (fun t h => h) (by simp) (by simp)
/-- a comprehension by an invariant: D the new list, us what is left -/
theorem lcG {vs : List Nat} {ti : QI} {tg : QG} {tt : QT} {te : QE} {δ : TSt} {g : G} {Q : K1} {ts : List T} {kp : G → Prop} (I : Addr → List T → G → Prop) (hti : ∀ R : Src → G → Prop, R ⟨ts, kp⟩ g → ti δ g R)
    (init : ∀ D, g D = none → I D ts (gput g D (.lst []))) (hk : ∀ D us g', I D us g' → kp g')
    (step : ∀ D t us g', I D (t :: us) g' → ∀ K : G → Prop, (∀ g'', I D us g'' → K g'') → tg t (wipeT δ vs) g' fun δ1 g1 => tt δ1 g1 fun b g2 => if b = true then te δ1 g2 fun y g3 => ∃ acc, g3 D = some (.lst acc) ∧ acc.length < sizeLine ∧ K (gput g3 D (.lst (acc ++ [y]))) else K g2)
    (fin : ∀ D g', I D [] g' → Q (.ref D) g') : qLc vs ti tg tt te δ g Q := by
  unfold qLc
  refine hti _ fun D hD => ?_
  have go : ∀ (us : List T) (g' : G), I D us g' → wLc kp tg tt te D (wipeT δ vs) (fun g2 => Q (.ref D) g2) us g' := by
    intro us
    induction us with
    | nil => intro g' h; exact ⟨hk _ _ _ h, fin D g' h⟩
    | cons t us ih => intro g' h; exact ⟨hk _ _ _ h, step D t us g' h _ fun g'' h' => ih g'' h'⟩
  exact go ts _ (init D hD)
theorem Sub.of1 {a : Addr} {g g1 g2 : G} (h : Sub g g1) (n : g a = Option.none) (h2 : Sub1 a g1 g2) : Sub g g2 := fun b o e => h2 b o (fun z => by rw [z, n] at e; cases e) (h b o e)
/-- a list without doubles within another one is no longer -/
theorem nodup_len {α : Type} [DecidableEq α] : ∀ {l m : List α}, l.Nodup → (∀ x ∈ l, x ∈ m) → l.length ≤ m.length
  | [], _, _, _ => Nat.zero_le _
  | a :: l, m, h, hs => by
    have ha := hs a (List.mem_cons_self ..)
    have h1 := List.nodup_cons.mp h
    have := nodup_len (l := l) (m := m.erase a) h1.2 fun x hx => by
      have hne : x ≠ a := fun z => h1.1 (z ▸ hx)
      exact (List.mem_erase_of_ne hne).mpr (hs x (List.mem_cons_of_mem _ hx))
    rw [List.length_erase_of_mem ha] at this
    have h2 := List.length_pos_of_mem ha
    simp only [List.length_cons]
    omega
section
variable {P : Program} {w : World} {K : PySem.W.Frag} {mg : PySem.Str → Option Value} {base : Heap}
theorem Cal.imp {k : Nat} {x : PySem.Str} {ps : List PySem.Str} {dts : List T} {sp sp' : TSp} (C : Cal P w K mg base k x ps dts sp) (h : ∀ ds g Q E, sp' ds g Q E → sp ds g Q E) : Cal P w K mg base k x ps dts sp' := by
  obtain ⟨f, fd, dvs, ds, h1, h2, h3, h4, h5, h6⟩ := C.ex
  refine ⟨fun ds g Q E z => C.len ds g Q E (h _ _ _ _ z), f, fd, dvs, ds, h1, h2, h3, h4, h5, h6.imp ?_⟩
  rintro vs H Q E ⟨ds, g, Q', E', z1, z2, z3, z4, z5⟩
  exact ⟨ds, g, Q', E', z1, z2, z3, h _ _ _ _ z4, z5⟩
/-- a def with defaults: all arguments written, or the last ones left out -/
theorem calW {st : Stmt} {x : PySem.Str} {N ps : List PySem.Str} {f : Addr} {k : Nat} {sp : TSp} {t : QS} {dvs dvs' : List V} {dts : List T} {fd : FuncData} {ds' : List Value} (F : FunD K x x (defArgs st) (defBody st) (defScope st) dvs [] f fd) (nm : mg x = some (.ref f)) (B : Binds K fd ps ds') (rv : Vals dvs' ds') (rt : ∀ g H, TVs P w K g H dts dvs') (S : FnScope N ps (defScope st))
    (hb : ∀ (cdv : Value) (A : Around) (outer : List Env) (s : Shared) (H : Hp) (E : XK), Room k (A.deeper (envOfC x (defScope st) s.heap.objs.size f cdv)) →
      PSs (cxD P w K mg base N x (defScope st) f cdv A outer s H E) (defBody st) (lowS (cxD P w K mg base N x (defScope st) f cdv A outer s H E) t))
    (len : ∀ ds g Q E, sp ds g Q E → ds.length = ps.length)
    (hp : ∀ ds g Q, sp ds g Q noX → t { nx := fun _ g' => Q .non g', rt := Q } (startT N ds) g)
    (hx : ∀ ds g Q E, sp ds g Q E → sp ds g Q noX) : Cal P w K mg base (k + 1) x ps dts sp :=
  ⟨len, f, fd, dvs', ds', nm, F.kp, B, rv, rt, fokD F S hb (fun ds g Q _ q => hp ds g Q q) hx⟩
end
end TL
set_option Elab.async false
set_option linter.all false
set_option maxRecDepth 100000
set_option maxHeartbeats 4000000
/-! printed by gen.py: the text by places, readings, derivations -/
namespace K82
open PySem PySem.Spec L2 PyProof.Rows TL
def top (i : Nat) : Stmt := PySem.Challenge.pw_reasonkeep_k82_of_as_few_the_first.main.body.getD i (.Pass ⟨0, 0, 0, 0⟩)
/-- the names of the text that the walk asks for -/
structure Txt (mg : PySem.Str → Option Value) : Prop where
  c_BEYOND : ∃ t, mg "BEYOND" = some (.int (10000000000000000000000000000000000000000) t)
  c_GREAT : ∃ t, mg "GREAT" = some (.str "ABCDEFGHIJKLMNOPQRSTUVWXYZ" t)
  c_MOST : ∃ t, mg "MOST" = some (.int (300) t)
  c_MOST_DEEP : ∃ t, mg "MOST_DEEP" = some (.int (6) t)
  c_MOST_SIGNS_patterns : ∃ t, mg "MOST_SIGNS_patterns" = some (.int (12) t)
  c_MOST_SIGNS_things : ∃ t, mg "MOST_SIGNS_things" = some (.int (40) t)
  c_MOST_THINGS : ∃ t, mg "MOST_THINGS" = some (.int (4) t)
  c_NAME_SIGNS : ∃ t, mg "NAME_SIGNS" = some (.str "abcdefghijklmnopqrstuvwxyzABCDEFGHIJKLMNOPQRSTUVWXYZ0123456789" t)
  c_SMALL : ∃ t, mg "SMALL" = some (.str "abcdefghijklmnopqrstuvwxyz" t)
  c_WORD_SIGNS : ∃ t, mg "WORD_SIGNS" = some (.str "abcdefghijklmnopqrstuvwxyz0123456789." t)
  n_all : mg "all" = none
  n_bool : mg "bool" = none
  n_enumerate : mg "enumerate" = none
  n_int : mg "int" = none
  n_isinstance : mg "isinstance" = none
  n_len : mg "len" = none
  n_list : mg "list" = none
  n_max : mg "max" = none
  n_range : mg "range" = none
  n_set : mg "set" = none
  n_sorted : mg "sorted" = none
  n_str : mg "str" = none
  n_tuple : mg "tuple" = none
section
variable {P : Program} {w : World} {K : PySem.W.Frag} {mg : PySem.Str → Option Value} {base : Heap} {tabP : Addr}
/-! ### is_word -/
abbrev s_is_word : Stmt := top 11
abbrev N_is_word : List PySem.Str := ["thing", "sign"]
theorem S_is_word : FnScope N_is_word ["thing"] (defScope s_is_word) := ⟨rfl, rfl, rfl, by decide +kernel, rfl, by decide +kernel, by decide +kernel⟩
def t_is_word : QS := (qSeq (qIfS (qOr (qNot (qTB (qCB (bIsi "str" isStr) (qCons (qVar 0) (qCons (qC (.ty "str")) qNil))))) (qNot (qTB (qChain cLe cLe (qC (.int 1)) (qCB bLen (qCons (qVar 0) qNil)) (qC (.int (40))))))) (qRet (qC (.bl false))) qNext) (qRet (qAndV (qOp cIn (qOp aIx (qVar 0) (qC (.int 0))) (qC (.str "abcdefghijklmnopqrstuvwxyz"))) (qCB bAll (qCons (qFrz (qLc [1] (iStrT (qVar 0)) (gtName 1) qYes (qOp cIn (qVar 1) (qC (.str "abcdefghijklmnopqrstuvwxyz0123456789."))))) qNil)))))
theorem d_is_word {k : Nat} (T : Txt mg) {f : Addr} {cdv : Value} {A : Around} {outer : List Env} {s : Shared} {H : Hp} {E : XK} (hr : Room k (A.deeper (envOfC "is_word" (defScope s_is_word) s.heap.objs.size f cdv))) :
    PSs (cxD P w K mg base N_is_word "is_word" (defScope s_is_word) f cdv A outer s H E) (defBody s_is_word) (lowS (cxD P w K mg base N_is_word "is_word" (defScope s_is_word) f cdv A outer s H E) (t_is_word)) :=
  (qss_cons (qs_if (PW.pt (q_or (q_not (q_tval (q_callB b_isStr rfl T.n_isinstance boot_isinstance (qa_cons (qv 0) (qa_cons (q_ty rfl T.n_str boot_str) qa_nil))))) (q_or1 (q_not (q_tchain o_le o_le q_int (q_callB b_len rfl T.n_len boot_len (qa_cons (qv 0) qa_nil)) (q_gI rfl T.c_MOST_SIGNS_things)))))) (qss_one (qs_ret q_bl)) qss_nil) (qss_one (qs_ret (q_andV (q_cmp (o_in (u65 hr)) (q_ix (u9 hr) (qv 0) q_int) (q_gS rfl T.c_SMALL)) (q_one (q_callB (b_all rfl) rfl T.n_all boot_all (qa_cons (q_frz (q_lc (own := [("sign", 1)]) rfl S_is_word.nd (qi_str (qv 0)) (blkOk_by rfl) (fun _ _ _ _ _ => (qgw_name (i := 1) (by decide) S_is_word.nd rfl (by first | exact Or.inl rfl | exact Or.inr rfl))) (fun _ _ _ _ _ => qts_nil) (fun _ _ _ _ _ => (q_cmp (o_in (u65 hr)) (qv 1) (q_gS rfl T.c_WORD_SIGNS))))) qa_nil)))))))
/-! ### is_number -/
abbrev s_is_number : Stmt := top 12
abbrev N_is_number : List PySem.Str := ["thing"]
theorem S_is_number : FnScope N_is_number ["thing"] (defScope s_is_number) := ⟨rfl, rfl, rfl, by decide +kernel, rfl, by decide +kernel, by decide +kernel⟩
def t_is_number : QS := (qRet (qAndV (qCB (bIsi "int" isInt) (qCons (qVar 0) (qCons (qC (.ty "int")) qNil))) (qAndV (qNotV (qCB (bIsi "bool" isBool) (qCons (qVar 0) (qCons (qC (.ty "bool")) qNil)))) (qChain cLt cLt (uNeg (qC (.int (10000000000000000000000000000000000000000)))) (qVar 0) (qC (.int (10000000000000000000000000000000000000000)))))))
theorem d_is_number {k : Nat} (T : Txt mg) {f : Addr} {cdv : Value} {A : Around} {outer : List Env} {s : Shared} {H : Hp} {E : XK} (hr : Room k (A.deeper (envOfC "is_number" (defScope s_is_number) s.heap.objs.size f cdv))) :
    PSs (cxD P w K mg base N_is_number "is_number" (defScope s_is_number) f cdv A outer s H E) (defBody s_is_number) (lowS (cxD P w K mg base N_is_number "is_number" (defScope s_is_number) f cdv A outer s H E) (t_is_number)) :=
  (qss_one (qs_ret (q_andV (q_callB b_isInt rfl T.n_isinstance boot_isinstance (qa_cons (qv 0) (qa_cons (q_ty rfl T.n_int boot_int) qa_nil))) (q_andV (q_notV (q_callB b_isBool rfl T.n_isinstance boot_isinstance (qa_cons (qv 0) (qa_cons (q_ty rfl T.n_bool boot_bool) qa_nil)))) (q_one (q_chain o_lt o_lt (q_neg (q_gI rfl T.c_BEYOND)) (qv 0) (q_gI rfl T.c_BEYOND)))))))
/-! ### is_headed -/
abbrev s_is_headed : Stmt := top 13
abbrev N_is_headed : List PySem.Str := ["thing"]
theorem S_is_headed : FnScope N_is_headed ["thing"] (defScope s_is_headed) := ⟨rfl, rfl, rfl, by decide +kernel, rfl, by decide +kernel, by decide +kernel⟩
def t_is_headed (sp_is_word : TSp) : QS := (qRet (qAndV (qCB (bIsi "tuple" isTup) (qCons (qVar 0) (qCons (qC (.ty "tuple")) qNil))) (qAndV (qChain cLe cLe (qC (.int 1)) (qCB bLen (qCons (qVar 0) qNil)) (qOp aAdd (qC (.int (4))) (qC (.int 1)))) (qCall sp_is_word [] (qCons (qOp aIx (qVar 0) (qC (.int 0))) qNil)))))
theorem d_is_headed {k : Nat} (T : Txt mg) {sp_is_word : TSp} {k_is_word : Nat} (C_is_word : Cal P w K mg base k_is_word "is_word" ["thing"] [] sp_is_word) (h_is_word : k_is_word + 2 ≤ k) {f : Addr} {cdv : Value} {A : Around} {outer : List Env} {s : Shared} {H : Hp} {E : XK} (hr : Room k (A.deeper (envOfC "is_headed" (defScope s_is_headed) s.heap.objs.size f cdv))) :
    PSs (cxD P w K mg base N_is_headed "is_headed" (defScope s_is_headed) f cdv A outer s H E) (defBody s_is_headed) (lowS (cxD P w K mg base N_is_headed "is_headed" (defScope s_is_headed) f cdv A outer s H E) (t_is_headed sp_is_word)) :=
  (qss_one (qs_ret (q_andV (q_callB b_isTup rfl T.n_isinstance boot_isinstance (qa_cons (qv 0) (qa_cons (q_ty rfl T.n_tuple boot_tuple) qa_nil))) (q_andV (q_chain o_le o_le q_int (q_callB b_len rfl T.n_len boot_len (qa_cons (qv 0) qa_nil)) (q_op o_add (q_gI rfl T.c_MOST_THINGS) q_int)) (q_one (q_callC C_is_word hr (by omega) rfl (qa_cons (q_ix (u9 hr) (qv 0) q_int) qa_nil)))))))
/-! ### is_within -/
abbrev s_is_within : Stmt := top 14
abbrev N_is_within : List PySem.Str := ["thing", "deep", "part"]
theorem S_is_within : FnScope N_is_within ["thing", "deep"] (defScope s_is_within) := ⟨rfl, rfl, rfl, by decide +kernel, rfl, by decide +kernel, by decide +kernel⟩
def t_is_within (sp_is_number : TSp) (sp_is_headed : TSp) (sp_is_within : TSp) : QS := (qSeq (qIfS (qTB (qCall sp_is_number [] (qCons (qVar 0) qNil))) (qRet (qC (.bl true))) qNext) (qSeq (qIfS (qNot (qTB (qCall sp_is_headed [] (qCons (qVar 0) qNil)))) (qRet (qC (.bl false))) qNext) (qSeq (qIfS (qTB (qOp cEq (qCB bLen (qCons (qVar 0) qNil)) (qC (.int 1)))) (qRet (qC (.bl true))) qNext) (qRet (qAndV (qOp cGt (qVar 1) (qC (.int 0))) (qCB bAll (qCons (qFrz (qLc [2] (iTp (qSl (qVar 0) (qPart (qC (.int 1))) qNoPart)) (gtName 2) qYes (qCall sp_is_within [] (qCons (qVar 2) (qCons (qOp aSub (qVar 1) (qC (.int 1))) qNil))))) qNil)))))))
theorem d_is_within {k : Nat} (T : Txt mg) {sp_is_number : TSp} {k_is_number : Nat} (C_is_number : Cal P w K mg base k_is_number "is_number" ["thing"] [] sp_is_number) {sp_is_headed : TSp} {k_is_headed : Nat} (C_is_headed : Cal P w K mg base k_is_headed "is_headed" ["thing"] [] sp_is_headed) {sp_is_within : TSp} {k_is_within : Nat} (C_is_within : Cal P w K mg base k_is_within "is_within" ["thing", "deep"] [] sp_is_within) (h_is_number : k_is_number + 2 ≤ k) (h_is_headed : k_is_headed + 2 ≤ k) (h_is_within : k_is_within + 2 ≤ k) {f : Addr} {cdv : Value} {A : Around} {outer : List Env} {s : Shared} {H : Hp} {E : XK} (hr : Room k (A.deeper (envOfC "is_within" (defScope s_is_within) s.heap.objs.size f cdv))) :
    PSs (cxD P w K mg base N_is_within "is_within" (defScope s_is_within) f cdv A outer s H E) (defBody s_is_within) (lowS (cxD P w K mg base N_is_within "is_within" (defScope s_is_within) f cdv A outer s H E) (t_is_within sp_is_number sp_is_headed sp_is_within)) :=
  (qss_cons (qs_if (q_tval (q_callC C_is_number hr (by omega) rfl (qa_cons (qv 0) qa_nil))) (qss_one (qs_ret q_bl)) qss_nil) (qss_cons (qs_if (q_not (q_tval (q_callC C_is_headed hr (by omega) rfl (qa_cons (qv 0) qa_nil)))) (qss_one (qs_ret q_bl)) qss_nil) (qss_cons (qs_if (q_tcmp (o_eq (u64 hr)) (q_callB b_len rfl T.n_len boot_len (qa_cons (qv 0) qa_nil)) q_int) (qss_one (qs_ret q_bl)) qss_nil) (qss_one (qs_ret (q_andV (q_cmp o_gt (qv 1) q_int) (q_one (q_callB (b_all rfl) rfl T.n_all boot_all (qa_cons (q_frz (q_lc (own := [("part", 2)]) rfl S_is_within.nd (qi_tup (q_slice (qv 0) (q_part q_int) q_no)) (blkOk_by rfl) (fun _ _ _ _ _ => (qgw_name (i := 2) (by decide) S_is_within.nd rfl (by first | exact Or.inl rfl | exact Or.inr rfl))) (fun _ _ _ _ _ => qts_nil) (fun _ _ _ _ _ => (q_callC C_is_within hr (by omega) rfl (qa_cons (qv 2) (qa_cons (q_op o_sub (qv 1) q_int) qa_nil)))))) qa_nil)))))))))
/-! ### is_thing -/
abbrev s_is_thing : Stmt := top 15
abbrev N_is_thing : List PySem.Str := ["thing"]
theorem S_is_thing : FnScope N_is_thing ["thing"] (defScope s_is_thing) := ⟨rfl, rfl, rfl, by decide +kernel, rfl, by decide +kernel, by decide +kernel⟩
def t_is_thing (sp_is_within : TSp) : QS := (qRet (qCall sp_is_within [] (qCons (qVar 0) (qCons (qC (.int (6))) qNil))))
theorem d_is_thing {k : Nat} (T : Txt mg) {sp_is_within : TSp} {k_is_within : Nat} (C_is_within : Cal P w K mg base k_is_within "is_within" ["thing", "deep"] [] sp_is_within) (h_is_within : k_is_within + 2 ≤ k) {f : Addr} {cdv : Value} {A : Around} {outer : List Env} {s : Shared} {H : Hp} {E : XK} (hr : Room k (A.deeper (envOfC "is_thing" (defScope s_is_thing) s.heap.objs.size f cdv))) :
    PSs (cxD P w K mg base N_is_thing "is_thing" (defScope s_is_thing) f cdv A outer s H E) (defBody s_is_thing) (lowS (cxD P w K mg base N_is_thing "is_thing" (defScope s_is_thing) f cdv A outer s H E) (t_is_thing sp_is_within)) :=
  (qss_one (qs_ret (q_callC C_is_within hr (by omega) rfl (qa_cons (qv 0) (qa_cons (q_gI rfl T.c_MOST_DEEP) qa_nil)))))
/-! ### is_fact -/
abbrev s_is_fact : Stmt := top 16
abbrev N_is_fact : List PySem.Str := ["thing"]
theorem S_is_fact : FnScope N_is_fact ["thing"] (defScope s_is_fact) := ⟨rfl, rfl, rfl, by decide +kernel, rfl, by decide +kernel, by decide +kernel⟩
def t_is_fact (sp_is_thing : TSp) : QS := (qRet (qAndV (qCB (bIsi "tuple" isTup) (qCons (qVar 0) (qCons (qC (.ty "tuple")) qNil))) (qCall sp_is_thing [] (qCons (qVar 0) qNil))))
theorem d_is_fact {k : Nat} (T : Txt mg) {sp_is_thing : TSp} {k_is_thing : Nat} (C_is_thing : Cal P w K mg base k_is_thing "is_thing" ["thing"] [] sp_is_thing) (h_is_thing : k_is_thing + 2 ≤ k) {f : Addr} {cdv : Value} {A : Around} {outer : List Env} {s : Shared} {H : Hp} {E : XK} (hr : Room k (A.deeper (envOfC "is_fact" (defScope s_is_fact) s.heap.objs.size f cdv))) :
    PSs (cxD P w K mg base N_is_fact "is_fact" (defScope s_is_fact) f cdv A outer s H E) (defBody s_is_fact) (lowS (cxD P w K mg base N_is_fact "is_fact" (defScope s_is_fact) f cdv A outer s H E) (t_is_fact sp_is_thing)) :=
  (qss_one (qs_ret (q_andV (q_callB b_isTup rfl T.n_isinstance boot_isinstance (qa_cons (qv 0) (qa_cons (q_ty rfl T.n_tuple boot_tuple) qa_nil))) (q_one (q_callC C_is_thing hr (by omega) rfl (qa_cons (qv 0) qa_nil))))))
/-! ### rank -/
abbrev s_rank : Stmt := top 17
abbrev N_rank : List PySem.Str := ["thing", "part"]
theorem S_rank : FnScope N_rank ["thing"] (defScope s_rank) := ⟨rfl, rfl, rfl, by decide +kernel, rfl, by decide +kernel, by decide +kernel⟩
def t_rank (sp_rank : TSp) : QS := (qSeq (qIfS (qTB (qCB (bIsi "int" isInt) (qCons (qVar 0) (qCons (qC (.ty "int")) qNil)))) (qRet (qTup (qCons (qC (.int 0)) (qCons (qVar 0) qNil)))) qNext) (qRet (qTup (qCons (qC (.int 1)) (qCons (qOp aIx (qVar 0) (qC (.int 0))) (qCons (qCB bLen (qCons (qVar 0) qNil)) (qCons (qCB bTup (qCons (qFrz (qLc [1] (iTp (qSl (qVar 0) (qPart (qC (.int 1))) qNoPart)) (gtName 1) qYes (qCall sp_rank [] (qCons (qVar 1) qNil)))) qNil)) qNil)))))))
theorem d_rank {k : Nat} (T : Txt mg) {sp_rank : TSp} {k_rank : Nat} (C_rank : Cal P w K mg base k_rank "rank" ["thing"] [] sp_rank) (h_rank : k_rank + 2 ≤ k) {f : Addr} {cdv : Value} {A : Around} {outer : List Env} {s : Shared} {H : Hp} {E : XK} (hr : Room k (A.deeper (envOfC "rank" (defScope s_rank) s.heap.objs.size f cdv))) :
    PSs (cxD P w K mg base N_rank "rank" (defScope s_rank) f cdv A outer s H E) (defBody s_rank) (lowS (cxD P w K mg base N_rank "rank" (defScope s_rank) f cdv A outer s H E) (t_rank sp_rank)) :=
  (qss_cons (qs_if (q_tval (q_callB b_isInt rfl T.n_isinstance boot_isinstance (qa_cons (qv 0) (qa_cons (q_ty rfl T.n_int boot_int) qa_nil)))) (qss_one (qs_ret (q_tup (qa_cons q_int (qa_cons (qv 0) qa_nil))))) qss_nil) (qss_one (qs_ret (q_tup (qa_cons q_int (qa_cons (q_ix (u9 hr) (qv 0) q_int) (qa_cons (q_callB b_len rfl T.n_len boot_len (qa_cons (qv 0) qa_nil)) (qa_cons (q_callTy b_tup rfl T.n_tuple boot_tuple (qa_cons (q_frz (q_lc (own := [("part", 1)]) rfl S_rank.nd (qi_tup (q_slice (qv 0) (q_part q_int) q_no)) (blkOk_by rfl) (fun _ _ _ _ _ => (qgw_name (i := 1) (by decide) S_rank.nd rfl (by first | exact Or.inl rfl | exact Or.inr rfl))) (fun _ _ _ _ _ => qts_nil) (fun _ _ _ _ _ => (q_callC C_rank hr (by omega) rfl (qa_cons (qv 1) qa_nil))))) qa_nil)) qa_nil))))))))
/-! ### ordered -/
abbrev s_ordered : Stmt := top 18
abbrev N_ordered : List PySem.Str := ["things", "found", "thing"]
theorem S_ordered : FnScope N_ordered ["things"] (defScope s_ordered) := ⟨rfl, rfl, rfl, by decide +kernel, rfl, by decide +kernel, by decide +kernel⟩
def t_ordered (sp_rank : TSp) : QS := (qSeq (qAsg qDict0 (gtName 1)) (qSeq (qFor (iOr (iLst (qVar 0)) (iKeysT (qVar 0))) (gtName 2) (qAsg (qC (.bl true)) (gtSub (qVar 1) (qVar 2)))) (qFz 1 (qRet (qFrz (qSortD sp_rank (qVar 1)))))))
theorem d_ordered {k : Nat} (T : Txt mg) {sp_rank : TSp} {k_rank : Nat} (C_rank : Cal P w K mg base k_rank "rank" ["thing"] [] sp_rank) (h_rank : k_rank + 2 ≤ k) {f : Addr} {cdv : Value} {A : Around} {outer : List Env} {s : Shared} {H : Hp} {E : XK} (hr : Room k (A.deeper (envOfC "ordered" (defScope s_ordered) s.heap.objs.size f cdv))) :
    PSs (cxD P w K mg base N_ordered "ordered" (defScope s_ordered) f cdv A outer s H E) (defBody s_ordered) (lowS (cxD P w K mg base N_ordered "ordered" (defScope s_ordered) f cdv A outer s H E) (t_ordered sp_rank)) :=
  (qss_cons (qs_set (i := 1) S_ordered.nd rfl (by first | exact Or.inl rfl | exact Or.inr rfl) q_dict0) (qss_cons (qs_for PassesOwn.never rfl (qi_or (qi_lst (qv 0)) (qi_keys (qv 0))) (qg_name (i := 2) S_ordered.nd rfl (by first | exact Or.inl rfl | exact Or.inr rfl)) (qss_one (qs_asg q_bl (qg_sub (u9 hr) (qv 1) (qv 2))))) (qss_fz 1 (qss_one (qs_ret (q_frz (q_sortD C_rank hr (by omega) rfl rfl T.n_sorted rfl (qv 1))))))))
/-! ### is_name -/
abbrev s_is_name : Stmt := top 23
abbrev N_is_name : List PySem.Str := ["thing", "sign"]
theorem S_is_name : FnScope N_is_name ["thing"] (defScope s_is_name) := ⟨rfl, rfl, rfl, by decide +kernel, rfl, by decide +kernel, by decide +kernel⟩
def t_is_name : QS := (qSeq (qIfS (qOr (qNot (qTB (qCB (bIsi "str" isStr) (qCons (qVar 0) (qCons (qC (.ty "str")) qNil))))) (qNot (qTB (qChain cLe cLe (qC (.int 1)) (qCB bLen (qCons (qVar 0) qNil)) (qC (.int (12))))))) (qRet (qC (.bl false))) qNext) (qRet (qAndV (qOp cIn (qOp aIx (qVar 0) (qC (.int 0))) (qC (.str "ABCDEFGHIJKLMNOPQRSTUVWXYZ"))) (qCB bAll (qCons (qFrz (qLc [1] (iStrT (qVar 0)) (gtName 1) qYes (qOp cIn (qVar 1) (qC (.str "abcdefghijklmnopqrstuvwxyzABCDEFGHIJKLMNOPQRSTUVWXYZ0123456789"))))) qNil)))))
theorem d_is_name {k : Nat} (T : Txt mg) {f : Addr} {cdv : Value} {A : Around} {outer : List Env} {s : Shared} {H : Hp} {E : XK} (hr : Room k (A.deeper (envOfC "is_name" (defScope s_is_name) s.heap.objs.size f cdv))) :
    PSs (cxD P w K mg base N_is_name "is_name" (defScope s_is_name) f cdv A outer s H E) (defBody s_is_name) (lowS (cxD P w K mg base N_is_name "is_name" (defScope s_is_name) f cdv A outer s H E) (t_is_name)) :=
  (qss_cons (qs_if (PW.pt (q_or (q_not (q_tval (q_callB b_isStr rfl T.n_isinstance boot_isinstance (qa_cons (qv 0) (qa_cons (q_ty rfl T.n_str boot_str) qa_nil))))) (q_or1 (q_not (q_tchain o_le o_le q_int (q_callB b_len rfl T.n_len boot_len (qa_cons (qv 0) qa_nil)) (q_gI rfl T.c_MOST_SIGNS_patterns)))))) (qss_one (qs_ret q_bl)) qss_nil) (qss_one (qs_ret (q_andV (q_cmp (o_in (u65 hr)) (q_ix (u9 hr) (qv 0) q_int) (q_gS rfl T.c_GREAT)) (q_one (q_callB (b_all rfl) rfl T.n_all boot_all (qa_cons (q_frz (q_lc (own := [("sign", 1)]) rfl S_is_name.nd (qi_str (qv 0)) (blkOk_by rfl) (fun _ _ _ _ _ => (qgw_name (i := 1) (by decide) S_is_name.nd rfl (by first | exact Or.inl rfl | exact Or.inr rfl))) (fun _ _ _ _ _ => qts_nil) (fun _ _ _ _ _ => (q_cmp (o_in (u65 hr)) (qv 1) (q_gS rfl T.c_NAME_SIGNS))))) qa_nil)))))))
/-! ### filled -/
abbrev s_filled : Stmt := top 24
abbrev N_filled : List PySem.Str := ["filling", "pattern", "part"]
theorem S_filled : FnScope N_filled ["filling", "pattern"] (defScope s_filled) := ⟨rfl, rfl, rfl, by decide +kernel, rfl, by decide +kernel, by decide +kernel⟩
def t_filled (sp_filled : TSp) : QS := (qSeq (qIfS (qTB (qCB (bIsi "str" isStr) (qCons (qVar 1) (qCons (qC (.ty "str")) qNil)))) (qRet (qBM "dict" mGet2 (qVar 0) (qCons (qVar 1) (qCons (qVar 1) qNil)))) qNext) (qSeq (qIfS (qTB (qCB (bIsi "tuple" isTup) (qCons (qVar 1) (qCons (qC (.ty "tuple")) qNil)))) (qRet (qOp aAdd (qTup (qCons (qOp aIx (qVar 1) (qC (.int 0))) qNil)) (qCB bTup (qCons (qFrz (qLc [2] (iTp (qSl (qVar 1) (qPart (qC (.int 1))) qNoPart)) (gtName 2) qYes (qCall sp_filled [] (qCons (qVar 0) (qCons (qVar 2) qNil))))) qNil)))) qNext) (qRet (qVar 1))))
theorem d_filled {k : Nat} (T : Txt mg) {sp_filled : TSp} {k_filled : Nat} (C_filled : Cal P w K mg base k_filled "filled" ["filling", "pattern"] [] sp_filled) (h_filled : k_filled + 2 ≤ k) {f : Addr} {cdv : Value} {A : Around} {outer : List Env} {s : Shared} {H : Hp} {E : XK} (hr : Room k (A.deeper (envOfC "filled" (defScope s_filled) s.heap.objs.size f cdv))) :
    PSs (cxD P w K mg base N_filled "filled" (defScope s_filled) f cdv A outer s H E) (defBody s_filled) (lowS (cxD P w K mg base N_filled "filled" (defScope s_filled) f cdv A outer s H E) (t_filled sp_filled)) :=
  (qss_cons (qs_if (q_tval (q_callB b_isStr rfl T.n_isinstance boot_isinstance (qa_cons (qv 1) (qa_cons (q_ty rfl T.n_str boot_str) qa_nil)))) (qss_one (qs_ret (q_bm F.plainAttrs_dict F.slot_dict_get F.type_dict_get (d_get2 (u9 hr)) (qv 0) (qa_cons (qv 1) (qa_cons (qv 1) qa_nil))))) qss_nil) (qss_cons (qs_if (q_tval (q_callB b_isTup rfl T.n_isinstance boot_isinstance (qa_cons (qv 1) (qa_cons (q_ty rfl T.n_tuple boot_tuple) qa_nil)))) (qss_one (qs_ret (q_op o_add (q_tup (qa_cons (q_ix (u9 hr) (qv 1) q_int) qa_nil)) (q_callTy b_tup rfl T.n_tuple boot_tuple (qa_cons (q_frz (q_lc (own := [("part", 2)]) rfl S_filled.nd (qi_tup (q_slice (qv 1) (q_part q_int) q_no)) (blkOk_by rfl) (fun _ _ _ _ _ => (qgw_name (i := 2) (by decide) S_filled.nd rfl (by first | exact Or.inl rfl | exact Or.inr rfl))) (fun _ _ _ _ _ => qts_nil) (fun _ _ _ _ _ => (q_callC C_filled hr (by omega) rfl (qa_cons (qv 0) (qa_cons (qv 2) qa_nil)))))) qa_nil))))) qss_nil) (qss_one (qs_ret (qv 1)))))
/-! ### order_key -/
abbrev s_order_key : Stmt := top 29
abbrev N_order_key : List PySem.Str := ["thing", "inner"]
theorem S_order_key : FnScope N_order_key ["thing"] (defScope s_order_key) := ⟨rfl, rfl, rfl, by decide +kernel, rfl, by decide +kernel, by decide +kernel⟩
def t_order_key (sp_order_key : TSp) : QS := (qSeq (qIfS (qTB (qCB (bIsi "int" isInt) (qCons (qVar 0) (qCons (qC (.ty "int")) qNil)))) (qRet (qTup (qCons (qC (.int 0)) (qCons (qVar 0) qNil)))) qNext) (qRet (qTup (qCons (qC (.int 1)) (qCons (qOp aIx (qVar 0) (qC (.int 0))) (qCons (qCB bLen (qCons (qVar 0) qNil)) (qCons (qCB bTup (qCons (qFrz (qLc [1] (iTp (qSl (qVar 0) (qPart (qC (.int 1))) qNoPart)) (gtName 1) qYes (qCall sp_order_key [] (qCons (qVar 1) qNil)))) qNil)) qNil)))))))
theorem d_order_key {k : Nat} (T : Txt mg) {sp_order_key : TSp} {k_order_key : Nat} (C_order_key : Cal P w K mg base k_order_key "order_key" ["thing"] [] sp_order_key) (h_order_key : k_order_key + 2 ≤ k) {f : Addr} {cdv : Value} {A : Around} {outer : List Env} {s : Shared} {H : Hp} {E : XK} (hr : Room k (A.deeper (envOfC "order_key" (defScope s_order_key) s.heap.objs.size f cdv))) :
    PSs (cxD P w K mg base N_order_key "order_key" (defScope s_order_key) f cdv A outer s H E) (defBody s_order_key) (lowS (cxD P w K mg base N_order_key "order_key" (defScope s_order_key) f cdv A outer s H E) (t_order_key sp_order_key)) :=
  (qss_cons (qs_if (q_tval (q_callB b_isInt rfl T.n_isinstance boot_isinstance (qa_cons (qv 0) (qa_cons (q_ty rfl T.n_int boot_int) qa_nil)))) (qss_one (qs_ret (q_tup (qa_cons q_int (qa_cons (qv 0) qa_nil))))) qss_nil) (qss_one (qs_ret (q_tup (qa_cons q_int (qa_cons (q_ix (u9 hr) (qv 0) q_int) (qa_cons (q_callB b_len rfl T.n_len boot_len (qa_cons (qv 0) qa_nil)) (qa_cons (q_callTy b_tup rfl T.n_tuple boot_tuple (qa_cons (q_frz (q_lc (own := [("inner", 1)]) rfl S_order_key.nd (qi_tup (q_slice (qv 0) (q_part q_int) q_no)) (blkOk_by rfl) (fun _ _ _ _ _ => (qgw_name (i := 1) (by decide) S_order_key.nd rfl (by first | exact Or.inl rfl | exact Or.inr rfl))) (fun _ _ _ _ _ => qts_nil) (fun _ _ _ _ _ => (q_callC C_order_key hr (by omega) rfl (qa_cons (qv 1) qa_nil))))) qa_nil)) qa_nil))))))))
/-! ### holds -/
abbrev s_holds : Stmt := top 31
abbrev N_holds : List PySem.Str := ["part", "filling", "had", "number", "one", "other"]
theorem S_holds : FnScope N_holds ["part", "filling", "had"] (defScope s_holds) := ⟨rfl, rfl, rfl, by decide +kernel, rfl, by decide +kernel, by decide +kernel⟩
def t_holds (sp_filled : TSp) : QS := (qSeq (qIfS (qTB (qOp cEq (qOp aIx (qVar 0) (qC (.int 0))) (qC (.str "is")))) (qRet (qOp cIn (qCall sp_filled [] (qCons (qVar 1) (qCons (qOp aIx (qVar 0) (qC (.int 1))) qNil))) (qVar 2))) qNext) (qSeq (qIfS (qTB (qOp cEq (qOp aIx (qVar 0) (qC (.int 0))) (qC (.str "not")))) (qRet (qOp cNotIn (qCall sp_filled [] (qCons (qVar 1) (qCons (qOp aIx (qVar 0) (qC (.int 1))) qNil))) (qVar 2))) qNext) qNever))
theorem d_holds {k : Nat} (T : Txt mg) {sp_filled : TSp} {k_filled : Nat} (C_filled : Cal P w K mg base k_filled "filled" ["filling", "pattern"] [] sp_filled) (h_filled : k_filled + 2 ≤ k) {f : Addr} {cdv : Value} {A : Around} {outer : List Env} {s : Shared} {H : Hp} {E : XK} (hr : Room k (A.deeper (envOfC "holds" (defScope s_holds) s.heap.objs.size f cdv))) :
    PSs (cxD P w K mg base N_holds "holds" (defScope s_holds) f cdv A outer s H E) (defBody s_holds) (lowS (cxD P w K mg base N_holds "holds" (defScope s_holds) f cdv A outer s H E) (t_holds sp_filled)) :=
  (qss_cons (qs_if (q_tcmp (o_eq (u64 hr)) (q_ix (u9 hr) (qv 0) q_int) q_str) (qss_one (qs_ret (q_cmp (o_in (u65 hr)) (q_callC C_filled hr (by omega) rfl (qa_cons (qv 1) (qa_cons (q_ix (u9 hr) (qv 0) q_int) qa_nil))) (qv 2)))) qss_nil) (qss_cons (qs_if (q_tcmp (o_eq (u64 hr)) (q_ix (u9 hr) (qv 0) q_int) q_str) (qss_one (qs_ret (q_cmp (o_notIn (u65 hr)) (q_callC C_filled hr (by omega) rfl (qa_cons (qv 1) (qa_cons (q_ix (u9 hr) (qv 0) q_int) qa_nil))) (qv 2)))) qss_nil) qss_never))
/-! ### names_within -/
abbrev s_names_within : Stmt := top 36
abbrev N_names_within : List PySem.Str := ["pattern", "names", "inner"]
theorem S_names_within : FnScope N_names_within ["pattern"] (defScope s_names_within) := ⟨rfl, rfl, rfl, by decide +kernel, rfl, by decide +kernel, by decide +kernel⟩
def t_names_within (sp_is_name : TSp) (sp_names_within : TSp) : QS := (qSeq (qIfS (qTB (qCall sp_is_name [] (qCons (qVar 0) qNil))) (qRet (qLstF (qCons (qVar 0) qNil))) qNext) (qSeq (qAsg (qLst qNil) (gtName 1)) (qSeq (qIfS (qTB (qCB (bIsi "tuple" isTup) (qCons (qVar 0) (qCons (qC (.ty "tuple")) qNil)))) (qFor (iTp (qSl (qVar 0) (qPart (qC (.int 1))) qNoPart)) (gtName 2) (qDrop (qBM "list" mExtend (qVar 1) (qCons (qCall sp_names_within [] (qCons (qVar 2) qNil)) qNil)))) qNext) (qRet (qFrz (qVar 1))))))
theorem d_names_within {k : Nat} (T : Txt mg) {sp_is_name : TSp} {k_is_name : Nat} (C_is_name : Cal P w K mg base k_is_name "is_name" ["thing"] [] sp_is_name) {sp_names_within : TSp} {k_names_within : Nat} (C_names_within : Cal P w K mg base k_names_within "names_within" ["pattern"] [] sp_names_within) (h_is_name : k_is_name + 2 ≤ k) (h_names_within : k_names_within + 2 ≤ k) {f : Addr} {cdv : Value} {A : Around} {outer : List Env} {s : Shared} {H : Hp} {E : XK} (hr : Room k (A.deeper (envOfC "names_within" (defScope s_names_within) s.heap.objs.size f cdv))) :
    PSs (cxD P w K mg base N_names_within "names_within" (defScope s_names_within) f cdv A outer s H E) (defBody s_names_within) (lowS (cxD P w K mg base N_names_within "names_within" (defScope s_names_within) f cdv A outer s H E) (t_names_within sp_is_name sp_names_within)) :=
  (qss_cons (qs_if (q_tval (q_callC C_is_name hr (by omega) rfl (qa_cons (qv 0) qa_nil))) (qss_one (qs_ret (q_lstF (qa_cons (qv 0) qa_nil)))) qss_nil) (qss_cons (qs_set (i := 1) S_names_within.nd rfl (by first | exact Or.inl rfl | exact Or.inr rfl) (q_lst qa_nil)) (qss_cons (qs_if (q_tval (q_callB b_isTup rfl T.n_isinstance boot_isinstance (qa_cons (qv 0) (qa_cons (q_ty rfl T.n_tuple boot_tuple) qa_nil)))) (qss_one (qs_for PassesOwn.never rfl (qi_tup (q_slice (qv 0) (q_part q_int) q_no)) (qg_name (i := 2) S_names_within.nd rfl (by first | exact Or.inl rfl | exact Or.inr rfl)) (qss_one (qs_expr (q_bm F.plainAttrs_list F.slot_list_extend F.type_list_extend l_extend (qv 1) (qa_cons (q_callC C_names_within hr (by omega) rfl (qa_cons (qv 2) qa_nil)) qa_nil)))))) qss_nil) (qss_one (qs_ret (q_frz (qv 1)))))))
/-! ### gone_on -/
abbrev s_gone_on : Stmt := top 33
abbrev N_gone_on : List PySem.Str := ["part", "filling", "had", "atom", "found", "number", "fact", "more"]
theorem S_gone_on : FnScope N_gone_on ["part", "filling", "had"] (defScope s_gone_on) := ⟨rfl, rfl, rfl, by decide +kernel, rfl, by decide +kernel, by decide +kernel⟩
def t_gone_on (sp_filled : TSp) (sp_names_within : TSp) (sp_holds : TSp) : QS := (qSeq (qIfS (qTB (qOp cEq (qOp aIx (qVar 0) (qC (.int 0))) (qC (.str "is")))) (qSeq (qAsg (qCall sp_filled [] (qCons (qVar 1) (qCons (qOp aIx (qVar 0) (qC (.int 1))) qNil))) (gtName 3)) (qSeq (qIfS (qTB (qOp cEq (qCall sp_names_within [] (qCons (qVar 3) qNil)) (qLstF qNil))) (qRet (qFrz (qSl (qLstF (qCons (qVar 1) qNil)) qNoPart (qPart (qCB bInt (qCons (qOp cIn (qVar 3) (qVar 2)) qNil)))))) qNext) qNever)) (qIfS (qTB (qOp cEq (qOp aIx (qVar 0) (qC (.int 0))) (qC (.str "let")))) qNever (qIfS (qTB (qCall sp_holds [] (qCons (qVar 0) (qCons (qVar 1) (qCons (qVar 2) qNil))))) (qRet (qLstF (qCons (qVar 1) qNil))) (qRet (qLstF qNil))))) qNever)
theorem d_gone_on {k : Nat} (T : Txt mg) {sp_filled : TSp} {k_filled : Nat} (C_filled : Cal P w K mg base k_filled "filled" ["filling", "pattern"] [] sp_filled) {sp_names_within : TSp} {k_names_within : Nat} (C_names_within : Cal P w K mg base k_names_within "names_within" ["pattern"] [] sp_names_within) {sp_holds : TSp} {k_holds : Nat} (C_holds : Cal P w K mg base k_holds "holds" ["part", "filling", "had"] [] sp_holds) (h_filled : k_filled + 2 ≤ k) (h_names_within : k_names_within + 2 ≤ k) (h_holds : k_holds + 2 ≤ k) {f : Addr} {cdv : Value} {A : Around} {outer : List Env} {s : Shared} {H : Hp} {E : XK} (hr : Room k (A.deeper (envOfC "gone_on" (defScope s_gone_on) s.heap.objs.size f cdv))) :
    PSs (cxD P w K mg base N_gone_on "gone_on" (defScope s_gone_on) f cdv A outer s H E) (defBody s_gone_on) (lowS (cxD P w K mg base N_gone_on "gone_on" (defScope s_gone_on) f cdv A outer s H E) (t_gone_on sp_filled sp_names_within sp_holds)) :=
  (qss_cons (qs_if (q_tcmp (o_eq (u64 hr)) (q_ix (u9 hr) (qv 0) q_int) q_str) (qss_cons (qs_set (i := 3) S_gone_on.nd rfl (by first | exact Or.inl rfl | exact Or.inr rfl) (q_callC C_filled hr (by omega) rfl (qa_cons (qv 1) (qa_cons (q_ix (u9 hr) (qv 0) q_int) qa_nil)))) (qss_cons (qs_if (q_tcmp (o_eq (u64 hr)) (q_callC C_names_within hr (by omega) rfl (qa_cons (qv 3) qa_nil)) (q_lstF qa_nil)) (qss_one (qs_ret (q_frz (q_slice (q_lstF (qa_cons (qv 1) qa_nil)) q_no (q_part (q_callTy b_int rfl T.n_int boot_int (qa_cons (q_cmp (o_in (u65 hr)) (qv 3) (qv 2)) qa_nil))))))) qss_nil) qss_never)) (qss_one (qs_if (q_tcmp (o_eq (u64 hr)) (q_ix (u9 hr) (qv 0) q_int) q_str) qss_never (qss_one (qs_if (q_tval (q_callC C_holds hr (by omega) rfl (qa_cons (qv 0) (qa_cons (qv 1) (qa_cons (qv 2) qa_nil))))) (qss_one (qs_ret (q_lstF (qa_cons (qv 1) qa_nil)))) (qss_one (qs_ret (q_lstF qa_nil)))))))) qss_never)
/-! ### each_once -/
abbrev s_each_once : Stmt := top 34
abbrev N_each_once : List PySem.Str := ["had", "known", "fact"]
theorem S_each_once : FnScope N_each_once ["had"] (defScope s_each_once) := ⟨rfl, rfl, rfl, by decide +kernel, rfl, by decide +kernel, by decide +kernel⟩
def t_each_once : QS := (qSeq (qAsg qDict0 (gtName 1)) (qSeq (qFor (iLst (qVar 0)) (gtName 2) (qAsg (qC (.bl true)) (gtSub (qVar 1) (qVar 2)))) (qRet (qFrz (qVar 1)))))
theorem d_each_once {k : Nat} (T : Txt mg) {f : Addr} {cdv : Value} {A : Around} {outer : List Env} {s : Shared} {H : Hp} {E : XK} (hr : Room k (A.deeper (envOfC "each_once" (defScope s_each_once) s.heap.objs.size f cdv))) :
    PSs (cxD P w K mg base N_each_once "each_once" (defScope s_each_once) f cdv A outer s H E) (defBody s_each_once) (lowS (cxD P w K mg base N_each_once "each_once" (defScope s_each_once) f cdv A outer s H E) (t_each_once)) :=
  (qss_cons (qs_set (i := 1) S_each_once.nd rfl (by first | exact Or.inl rfl | exact Or.inr rfl) q_dict0) (qss_cons (qs_for PassesOwn.never rfl (qi_lst (qv 0)) (qg_name (i := 2) S_each_once.nd rfl (by first | exact Or.inl rfl | exact Or.inr rfl)) (qss_one (qs_asg q_bl (qg_sub (u9 hr) (qv 1) (qv 2))))) (qss_one (qs_ret (q_frz (qv 1))))))
/-! ### names_sorted -/
abbrev s_names_sorted : Stmt := top 35
abbrev N_names_sorted : List PySem.Str := ["body", "names", "part", "pattern"]
theorem S_names_sorted : FnScope N_names_sorted ["body"] (defScope s_names_sorted) := ⟨rfl, rfl, rfl, by decide +kernel, rfl, by decide +kernel, by decide +kernel⟩
def t_names_sorted (sp_names_within : TSp) : QS := (qSeq (qAsg (qLst qNil) (gtName 1)) (qSeq (qFor (iTp (qVar 0)) (gtName 2) (qFor (iTp (qSl (qVar 2) (qPart (qC (.int 1))) qNoPart)) (gtName 3) (qDrop (qBM "list" mExtend (qVar 1) (qCons (qCall sp_names_within [] (qCons (qVar 3) qNil)) qNil))))) (qFz 1 (qRet (qSortSet (qVar 1))))))
theorem d_names_sorted {k : Nat} (T : Txt mg) {sp_names_within : TSp} {k_names_within : Nat} (C_names_within : Cal P w K mg base k_names_within "names_within" ["pattern"] [] sp_names_within) (h_names_within : k_names_within + 2 ≤ k) {f : Addr} {cdv : Value} {A : Around} {outer : List Env} {s : Shared} {H : Hp} {E : XK} (hr : Room k (A.deeper (envOfC "names_sorted" (defScope s_names_sorted) s.heap.objs.size f cdv))) :
    PSs (cxD P w K mg base N_names_sorted "names_sorted" (defScope s_names_sorted) f cdv A outer s H E) (defBody s_names_sorted) (lowS (cxD P w K mg base N_names_sorted "names_sorted" (defScope s_names_sorted) f cdv A outer s H E) (t_names_sorted sp_names_within)) :=
  (qss_cons (qs_set (i := 1) S_names_sorted.nd rfl (by first | exact Or.inl rfl | exact Or.inr rfl) (q_lst qa_nil)) (qss_cons (qs_for PassesOwn.never rfl (qi_tup (qv 0)) (qg_name (i := 2) S_names_sorted.nd rfl (by first | exact Or.inl rfl | exact Or.inr rfl)) (qss_one (qs_for PassesOwn.never rfl (qi_tup (q_slice (qv 2) (q_part q_int) q_no)) (qg_name (i := 3) S_names_sorted.nd rfl (by first | exact Or.inl rfl | exact Or.inr rfl)) (qss_one (qs_expr (q_bm F.plainAttrs_list F.slot_list_extend F.type_list_extend l_extend (qv 1) (qa_cons (q_callC C_names_within hr (by omega) rfl (qa_cons (qv 3) qa_nil)) qa_nil))))))) (qss_fz 1 (qss_one (qs_ret (q_sortSet rfl rfl T.n_sorted rfl T.n_set (qv 1)))))))
/-! ### bindings -/
abbrev s_bindings : Stmt := top 37
abbrev N_bindings : List PySem.Str := ["body", "had", "known", "found", "part", "further", "filling", "names", "things_of"]
theorem S_bindings : FnScope N_bindings ["body", "had"] (defScope s_bindings) := ⟨rfl, rfl, rfl, by decide +kernel, rfl, by decide +kernel, by decide +kernel⟩
abbrev N_bindings_nd : List PySem.Str := ["binding", "names", "name"]
theorem ND_N_bindings_nd : N_bindings_nd.Nodup := by decide
def t_bindings (tabP : Addr) (sp_each_once : TSp) (sp_gone_on : TSp) (sp_names_sorted : TSp) (sp_order_key : TSp) : QS := (qSeq (qAsg (qCall sp_each_once [] (qCons (qVar 1) qNil)) (gtName 2)) (qSeq (qAsg (qLstF (qCons (qFrz qDict0) qNil)) (gtName 3)) (qSeq (qFor (iTp (qVar 0)) (gtName 4) (qSeq (qAsg (qLst qNil) (gtName 5)) (qSeq (qFor (iLst (qVar 3)) (gtName 6) (qDrop (qBM "list" mExtend (qVar 5) (qCons (qCall sp_gone_on [] (qCons (qVar 4) (qCons (qVar 6) (qCons (qVar 2) qNil)))) qNil)))) (qAsg (qFrz (qVar 5)) (gtName 3))))) (qSeq (qAsg (qCall sp_names_sorted [] (qCons (qVar 0) qNil)) (gtName 7)) (qNdSort tabP ((("bindings" : PySem.Str) ++ ".<locals>.") ++ "things_of") 152 4 8 N_bindings_nd [7] (qVar 3) (qRet (qFrz (qLc [2] (iLst (qVar 1)) (gtName 2) qYes (qCall sp_order_key [] (qCons (qOp aIx (qVar 0) (qVar 2)) qNil))))))))))
theorem d_bindings {k : Nat} (T : Txt mg) {sp_each_once : TSp} {k_each_once : Nat} (C_each_once : Cal P w K mg base k_each_once "each_once" ["had"] [] sp_each_once) {sp_gone_on : TSp} {k_gone_on : Nat} (C_gone_on : Cal P w K mg base k_gone_on "gone_on" ["part", "filling", "had"] [] sp_gone_on) {sp_names_sorted : TSp} {k_names_sorted : Nat} (C_names_sorted : Cal P w K mg base k_names_sorted "names_sorted" ["body"] [] sp_names_sorted) {sp_order_key : TSp} {k_order_key : Nat} (C_order_key : Cal P w K mg base k_order_key "order_key" ["thing"] [] sp_order_key) {cod : Addr} (TB : LamX.TabB base mg cod tabP) (h_each_once : k_each_once + 2 ≤ k) (h_gone_on : k_gone_on + 2 ≤ k) (h_names_sorted : k_names_sorted + 2 ≤ k) (h_order_key : k_order_key + 2 ≤ k) {f : Addr} {A : Around} {outer : List Env} {s : Shared} {H : Hp} {E : XK} (hr : Room (k + 3) (A.deeper (envOfC "bindings" (defScope s_bindings) s.heap.objs.size f (.ref cod)))) :
    PSs (cxD P w K mg base N_bindings "bindings" (defScope s_bindings) f (.ref cod) A outer s H E) (defBody s_bindings) (lowS (cxD P w K mg base N_bindings "bindings" (defScope s_bindings) f (.ref cod) A outer s H E) (t_bindings tabP sp_each_once sp_gone_on sp_names_sorted sp_order_key)) :=
  (qss_cons (qs_set (i := 2) S_bindings.nd rfl (by first | exact Or.inl rfl | exact Or.inr rfl) (q_callC C_each_once hr (by omega) rfl (qa_cons (qv 1) qa_nil))) (qss_cons (qs_set (i := 3) S_bindings.nd rfl (by first | exact Or.inl rfl | exact Or.inr rfl) (q_lstF (qa_cons (q_frz q_dict0) qa_nil))) (qss_cons (qs_for PassesOwn.never rfl (qi_tup (qv 0)) (qg_name (i := 4) S_bindings.nd rfl (by first | exact Or.inl rfl | exact Or.inr rfl)) (qss_cons (qs_set (i := 5) S_bindings.nd rfl (by first | exact Or.inl rfl | exact Or.inr rfl) (q_lst qa_nil)) (qss_cons (qs_for PassesOwn.never rfl (qi_lst (qv 3)) (qg_name (i := 6) S_bindings.nd rfl (by first | exact Or.inl rfl | exact Or.inr rfl)) (qss_one (qs_expr (q_bm F.plainAttrs_list F.slot_list_extend F.type_list_extend l_extend (qv 5) (qa_cons (q_callC C_gone_on hr (by omega) rfl (qa_cons (qv 4) (qa_cons (qv 6) (qa_cons (qv 2) qa_nil)))) qa_nil))))) (qss_one (qs_set (i := 3) S_bindings.nd rfl (by first | exact Or.inl rfl | exact Or.inr rfl) (q_frz (qv 5))))))) (qss_cons (qs_set (i := 7) S_bindings.nd rfl (by first | exact Or.inl rfl | exact Or.inr rfl) (q_callC C_names_sorted hr (by omega) rfl (qa_cons (qv 0) qa_nil))) (qss_ndefSortC (k := k) (N := N_bindings_nd) (ps := ["binding"]) (fr := ["names"]) (js := [7]) TB rfl (by show ∀ y : PySem.Str × NameKind, y ∈ _ → y.2 = NameKind.free → (defScope s_bindings).names.lookup y.1 = some .cell ∨ (defScope s_bindings).names.lookup y.1 = some .free; decide +kernel) rfl rfl rfl S_bindings.nd (i := 8) rfl (by first | exact Or.inl rfl | exact Or.inr rfl) (Or.inr rfl) (by decide) (by decide) ⟨rfl, rfl, rfl, by decide, by decide, ⟨"binding", rfl, rfl, one_cell (by decide +kernel), fun _ _ => rfl, fun _ => rfl⟩, by decide +kernel, by decide +kernel⟩ rfl (fun q cl doc pm cv ctv us hl => match us, hl with | [_], _ => rfl) (by decide +kernel) rfl hr rfl rfl T.n_sorted (qv 3) (fun F f A outer s H E e1 e2 hr => by obtain ⟨_, _, _, _, _, _, _⟩ := F; cases e1; exact ss_as (qss_one (qs_ret (q_frz (q_lc (own := [("name", 2)]) rfl ND_N_bindings_nd (qi_lst (qv 1)) (blkOk_by rfl) (fun _ _ _ _ _ => (qgw_name (i := 2) (by decide) ND_N_bindings_nd rfl (by first | exact Or.inl rfl | exact Or.inr rfl))) (fun _ _ _ _ _ => qts_nil) (fun _ _ _ _ _ => (q_callC C_order_key hr (by omega) rfl (qa_cons (q_ix (u9 hr) (qv 0) (qv 2)) qa_nil))))))) rfl rfl rfl) rfl rfl rfl)))))
/-! ### gives -/
abbrev s_gives : Stmt := top 39
abbrev N_gives : List PySem.Str := ["rule", "had", "head", "group", "body", "heads", "binding", "given", "atom", "fact"]
theorem S_gives : FnScope N_gives ["rule", "had"] (defScope s_gives) := ⟨rfl, rfl, rfl, by decide +kernel, rfl, by decide +kernel, by decide +kernel⟩
def t_gives (sp_bindings : TSp) (sp_filled : TSp) (sp_ordered : TSp) (sp_is_fact : TSp) : QS := (qSeq (qAsg (qVar 0) (gtTup 3 (gtCons (gtName 2) (gtCons (gtName 3) (gtCons (gtName 4) gtNil))))) (qSeq (qAsg qDict0 (gtName 5)) (qSeq (qFor (iLst (qCall sp_bindings [] (qCons (qVar 4) (qCons (qVar 1) qNil)))) (gtName 6) (qDrop (qBM "list" mAppend (qBM "dict" mSetD (qVar 5) (qCons (qCall sp_filled [] (qCons (qVar 6) (qCons (qVar 2) qNil))) (qCons (qLst qNil) qNil))) (qCons (qVar 6) qNil)))) (qSeq (qAsg (qFrz (qCB bList (qCons (qVar 5) qNil))) (gtName 7)) (qSeq (qIfS (qTB (qOp cNotN (qVar 3) (qC .non))) qNever qNext) (qRet (qCall sp_ordered [] (qCons (qFrz (qLc [9] (iLst (qVar 7)) (gtName 9) (qTB (qCall sp_is_fact [] (qCons (qVar 9) qNil))) (qVar 9))) qNil))))))))
theorem d_gives {k : Nat} (T : Txt mg) {sp_bindings : TSp} {k_bindings : Nat} (C_bindings : Cal P w K mg base k_bindings "bindings" ["body", "had"] [] sp_bindings) {sp_filled : TSp} {k_filled : Nat} (C_filled : Cal P w K mg base k_filled "filled" ["filling", "pattern"] [] sp_filled) {sp_ordered : TSp} {k_ordered : Nat} (C_ordered : Cal P w K mg base k_ordered "ordered" ["things"] [] sp_ordered) {sp_is_fact : TSp} {k_is_fact : Nat} (C_is_fact : Cal P w K mg base k_is_fact "is_fact" ["thing"] [] sp_is_fact) (h_bindings : k_bindings + 2 ≤ k) (h_filled : k_filled + 2 ≤ k) (h_ordered : k_ordered + 2 ≤ k) (h_is_fact : k_is_fact + 2 ≤ k) {f : Addr} {cdv : Value} {A : Around} {outer : List Env} {s : Shared} {H : Hp} {E : XK} (hr : Room k (A.deeper (envOfC "gives" (defScope s_gives) s.heap.objs.size f cdv))) :
    PSs (cxD P w K mg base N_gives "gives" (defScope s_gives) f cdv A outer s H E) (defBody s_gives) (lowS (cxD P w K mg base N_gives "gives" (defScope s_gives) f cdv A outer s H E) (t_gives sp_bindings sp_filled sp_ordered sp_is_fact)) :=
  (qss_cons (qs_asg (qv 0) (qg_tup rfl (qgs_cons (qg_name (i := 2) S_gives.nd rfl (by first | exact Or.inl rfl | exact Or.inr rfl)) (qgs_cons (qg_name (i := 3) S_gives.nd rfl (by first | exact Or.inl rfl | exact Or.inr rfl)) (qgs_cons (qg_name (i := 4) S_gives.nd rfl (by first | exact Or.inl rfl | exact Or.inr rfl)) qgs_nil))))) (qss_cons (qs_set (i := 5) S_gives.nd rfl (by first | exact Or.inl rfl | exact Or.inr rfl) q_dict0) (qss_cons (qs_for PassesOwn.never rfl (qi_lst (q_callC C_bindings hr (by omega) rfl (qa_cons (qv 4) (qa_cons (qv 1) qa_nil)))) (qg_name (i := 6) S_gives.nd rfl (by first | exact Or.inl rfl | exact Or.inr rfl)) (qss_one (qs_expr (q_bm F.plainAttrs_list F.slot_list_append F.type_list_append l_append (q_bm F.plainAttrs_dict F.slot_dict_setdefault F.type_dict_setdefault (d_setd (u9 hr)) (qv 5) (qa_cons (q_callC C_filled hr (by omega) rfl (qa_cons (qv 6) (qa_cons (qv 2) qa_nil))) (qa_cons (q_lst qa_nil) qa_nil))) (qa_cons (qv 6) qa_nil))))) (qss_cons (qs_set (i := 7) S_gives.nd rfl (by first | exact Or.inl rfl | exact Or.inr rfl) (q_frz (q_callTy (b_list rfl) rfl T.n_list boot_list (qa_cons (qv 5) qa_nil)))) (qss_cons (qs_if (q_tcmp o_notN (qv 3) q_non) qss_never qss_nil) (qss_one (qs_ret (q_callC C_ordered hr (by omega) rfl (qa_cons (q_frz (q_lc (own := [("fact", 9)]) rfl S_gives.nd (qi_lst (qv 7)) (blkOk_by rfl) (fun _ _ _ _ _ => (qgw_name (i := 9) (by decide) S_gives.nd rfl (by first | exact Or.inl rfl | exact Or.inr rfl))) (fun _ _ _ _ _ => (qts_one (q_tval (q_callC C_is_fact hr (by omega) rfl (qa_cons (qv 9) qa_nil))))) (fun _ _ _ _ _ => (qv 9)))) qa_nil)))))))))
/-! ### shape_of -/
abbrev s_shape_of : Stmt := top 41
abbrev N_shape_of : List PySem.Str := ["atom"]
theorem S_shape_of : FnScope N_shape_of ["atom"] (defScope s_shape_of) := ⟨rfl, rfl, rfl, by decide +kernel, rfl, by decide +kernel, by decide +kernel⟩
def t_shape_of : QS := (qRet (qTup (qCons (qOp aIx (qVar 0) (qC (.int 0))) (qCons (qOp aSub (qCB bLen (qCons (qVar 0) qNil)) (qC (.int 1))) qNil))))
theorem d_shape_of {k : Nat} (T : Txt mg) {f : Addr} {cdv : Value} {A : Around} {outer : List Env} {s : Shared} {H : Hp} {E : XK} (hr : Room k (A.deeper (envOfC "shape_of" (defScope s_shape_of) s.heap.objs.size f cdv))) :
    PSs (cxD P w K mg base N_shape_of "shape_of" (defScope s_shape_of) f cdv A outer s H E) (defBody s_shape_of) (lowS (cxD P w K mg base N_shape_of "shape_of" (defScope s_shape_of) f cdv A outer s H E) (t_shape_of)) :=
  (qss_one (qs_ret (q_tup (qa_cons (q_ix (u9 hr) (qv 0) q_int) (qa_cons (q_op o_sub (q_callB b_len rfl T.n_len boot_len (qa_cons (qv 0) qa_nil)) q_int) qa_nil)))))
/-! ### rule_shape -/
abbrev s_rule_shape : Stmt := top 42
abbrev N_rule_shape : List PySem.Str := ["rule", "word", "many"]
theorem S_rule_shape : FnScope N_rule_shape ["rule"] (defScope s_rule_shape) := ⟨rfl, rfl, rfl, by decide +kernel, rfl, by decide +kernel, by decide +kernel⟩
def t_rule_shape (sp_shape_of : TSp) : QS := (qSeq (qAsg (qCall sp_shape_of [] (qCons (qOp aIx (qVar 0) (qC (.int 0))) qNil)) (gtTup 2 (gtCons (gtName 1) (gtCons (gtName 2) gtNil)))) (qSeq (qIfS (qTB (qOp cNotN (qOp aIx (qVar 0) (qC (.int 1))) (qC .non))) (qAug 2 (qC (.int 1)) riAdd) qNext) (qRet (qTup (qCons (qVar 1) (qCons (qVar 2) qNil))))))
theorem d_rule_shape {k : Nat} (T : Txt mg) {sp_shape_of : TSp} {k_shape_of : Nat} (C_shape_of : Cal P w K mg base k_shape_of "shape_of" ["atom"] [] sp_shape_of) (h_shape_of : k_shape_of + 2 ≤ k) {f : Addr} {cdv : Value} {A : Around} {outer : List Env} {s : Shared} {H : Hp} {E : XK} (hr : Room k (A.deeper (envOfC "rule_shape" (defScope s_rule_shape) s.heap.objs.size f cdv))) :
    PSs (cxD P w K mg base N_rule_shape "rule_shape" (defScope s_rule_shape) f cdv A outer s H E) (defBody s_rule_shape) (lowS (cxD P w K mg base N_rule_shape "rule_shape" (defScope s_rule_shape) f cdv A outer s H E) (t_rule_shape sp_shape_of)) :=
  (qss_cons (qs_asg (q_callC C_shape_of hr (by omega) rfl (qa_cons (q_ix (u9 hr) (qv 0) q_int) qa_nil)) (qg_tup rfl (qgs_cons (qg_name (i := 1) S_rule_shape.nd rfl (by first | exact Or.inl rfl | exact Or.inr rfl)) (qgs_cons (qg_name (i := 2) S_rule_shape.nd rfl (by first | exact Or.inl rfl | exact Or.inr rfl)) qgs_nil)))) (qss_cons (qs_if (q_tcmp o_notN (q_ix (u9 hr) (qv 0) q_int) q_non) (qss_one (qs_aug (i := 2) S_rule_shape.nd rfl (by first | exact Or.inl rfl | exact Or.inr rfl) q_int i_add)) qss_nil) (qss_one (qs_ret (q_tup (qa_cons (qv 1) (qa_cons (qv 2) qa_nil)))))))
/-! ### looked_at -/
abbrev s_looked_at : Stmt := top 44
abbrev N_looked_at : List PySem.Str := ["rule", "found", "part"]
theorem S_looked_at : FnScope N_looked_at ["rule"] (defScope s_looked_at) := ⟨rfl, rfl, rfl, by decide +kernel, rfl, by decide +kernel, by decide +kernel⟩
def t_looked_at (sp_shape_of : TSp) : QS := (qSeq (qAsg (qLst qNil) (gtName 1)) (qSeq (qFor (iTp (qOp aIx (qVar 0) (qC (.int 2)))) (gtName 2) (qIfS (qTB (qOp cIn (qOp aIx (qVar 2) (qC (.int 0))) (qTup (qCons (qC (.str "is")) (qCons (qC (.str "not")) qNil))))) (qDrop (qBM "list" mAppend (qVar 1) (qCons (qTup (qCons (qCall sp_shape_of [] (qCons (qOp aIx (qVar 2) (qC (.int 1))) qNil)) (qCons (qCB bInt (qCons (qOrV (qOp cEq (qOp aIx (qVar 2) (qC (.int 0))) (qC (.str "not"))) (qOp cNotN (qOp aIx (qVar 0) (qC (.int 1))) (qC .non))) qNil)) qNil))) qNil))) qNext)) (qRet (qFrz (qVar 1)))))
theorem d_looked_at {k : Nat} (T : Txt mg) {sp_shape_of : TSp} {k_shape_of : Nat} (C_shape_of : Cal P w K mg base k_shape_of "shape_of" ["atom"] [] sp_shape_of) (h_shape_of : k_shape_of + 2 ≤ k) {f : Addr} {cdv : Value} {A : Around} {outer : List Env} {s : Shared} {H : Hp} {E : XK} (hr : Room k (A.deeper (envOfC "looked_at" (defScope s_looked_at) s.heap.objs.size f cdv))) :
    PSs (cxD P w K mg base N_looked_at "looked_at" (defScope s_looked_at) f cdv A outer s H E) (defBody s_looked_at) (lowS (cxD P w K mg base N_looked_at "looked_at" (defScope s_looked_at) f cdv A outer s H E) (t_looked_at sp_shape_of)) :=
  (qss_cons (qs_set (i := 1) S_looked_at.nd rfl (by first | exact Or.inl rfl | exact Or.inr rfl) (q_lst qa_nil)) (qss_cons (qs_for PassesOwn.never rfl (qi_tup (q_ix (u9 hr) (qv 0) q_int)) (qg_name (i := 2) S_looked_at.nd rfl (by first | exact Or.inl rfl | exact Or.inr rfl)) (qss_one (qs_if (q_tcmp (o_in (u65 hr)) (q_ix (u9 hr) (qv 2) q_int) (q_tup (qa_cons q_str (qa_cons q_str qa_nil)))) (qss_one (qs_expr (q_bm F.plainAttrs_list F.slot_list_append F.type_list_append l_append (qv 1) (qa_cons (q_tup (qa_cons (q_callC C_shape_of hr (by omega) rfl (qa_cons (q_ix (u9 hr) (qv 2) q_int) qa_nil)) (qa_cons (q_callTy b_int rfl T.n_int boot_int (qa_cons (q_orV (q_cmp (o_eq (u64 hr)) (q_ix (u9 hr) (qv 2) q_int) q_str) (q_one (q_cmp o_notN (q_ix (u9 hr) (qv 0) q_int) q_non))) qa_nil)) qa_nil))) qa_nil)))) qss_nil))) (qss_one (qs_ret (q_frz (qv 1))))))
/-! ### two_of_one_shape -/
abbrev s_two_of_one_shape : Stmt := top 45
abbrev N_two_of_one_shape : List PySem.Str := ["rules", "j", "other", "i", "grouped"]
theorem S_two_of_one_shape : FnScope N_two_of_one_shape ["rules"] (defScope s_two_of_one_shape) := ⟨rfl, rfl, rfl, by decide +kernel, rfl, by decide +kernel, by decide +kernel⟩
def t_two_of_one_shape (sp_rule_shape : TSp) : QS := (qSeq (qFor (iEnum (qCons (qVar 0) qNil)) (gtTup 2 (gtCons (gtName 1) (gtCons (gtName 2) gtNil))) (qFor (iRng1 (qCons (qVar 1) qNil)) (gtName 3) (qSeq (qAsg (qOrV (qOp cNotN (qOp aIx (qOp aIx (qVar 0) (qVar 3)) (qC (.int 1))) (qC .non)) (qOp cNotN (qOp aIx (qVar 2) (qC (.int 1))) (qC .non))) (gtName 4)) (qIfS (qAnd (qTB (qVar 4)) (qTB (qOp cEq (qCall sp_rule_shape [] (qCons (qOp aIx (qVar 0) (qVar 3)) qNil)) (qCall sp_rule_shape [] (qCons (qVar 2) qNil))))) (qRet (qTup (qCons (qVar 3) (qCons (qVar 1) qNil)))) qNext)))) (qRet (qC .non)))
theorem d_two_of_one_shape {k : Nat} (T : Txt mg) {sp_rule_shape : TSp} {k_rule_shape : Nat} (C_rule_shape : Cal P w K mg base k_rule_shape "rule_shape" ["rule"] [] sp_rule_shape) (h_rule_shape : k_rule_shape + 2 ≤ k) {f : Addr} {cdv : Value} {A : Around} {outer : List Env} {s : Shared} {H : Hp} {E : XK} (hr : Room k (A.deeper (envOfC "two_of_one_shape" (defScope s_two_of_one_shape) s.heap.objs.size f cdv))) :
    PSs (cxD P w K mg base N_two_of_one_shape "two_of_one_shape" (defScope s_two_of_one_shape) f cdv A outer s H E) (defBody s_two_of_one_shape) (lowS (cxD P w K mg base N_two_of_one_shape "two_of_one_shape" (defScope s_two_of_one_shape) f cdv A outer s H E) (t_two_of_one_shape sp_rule_shape)) :=
  (qss_cons (qs_for PassesOwn.never rfl (qi_enum rfl T.n_enumerate (qa_cons (qv 0) qa_nil)) (qg_tup rfl (qgs_cons (qg_name (i := 1) S_two_of_one_shape.nd rfl (by first | exact Or.inl rfl | exact Or.inr rfl)) (qgs_cons (qg_name (i := 2) S_two_of_one_shape.nd rfl (by first | exact Or.inl rfl | exact Or.inr rfl)) qgs_nil))) (qss_one (qs_for PassesOwn.never rfl (qi_rng1 rfl T.n_range (qa_cons (qv 1) qa_nil)) (qg_name (i := 3) S_two_of_one_shape.nd rfl (by first | exact Or.inl rfl | exact Or.inr rfl)) (qss_cons (qs_set (i := 4) S_two_of_one_shape.nd rfl (by first | exact Or.inl rfl | exact Or.inr rfl) (q_orV (q_cmp o_notN (q_ix (u9 hr) (q_ix (u9 hr) (qv 0) (qv 3)) q_int) q_non) (q_one (q_cmp o_notN (q_ix (u9 hr) (qv 2) q_int) q_non)))) (qss_one (qs_if (PW.pt (q_and (q_tval (qv 4)) (q_and1 (q_tcmp (o_eq (u64 hr)) (q_callC C_rule_shape hr (by omega) rfl (qa_cons (q_ix (u9 hr) (qv 0) (qv 3)) qa_nil)) (q_callC C_rule_shape hr (by omega) rfl (qa_cons (qv 2) qa_nil)))))) (qss_one (qs_ret (q_tup (qa_cons (qv 3) (qa_cons (qv 1) qa_nil))))) qss_nil)))))) (qss_one (qs_ret q_non)))
/-! ### way_of_rules -/
abbrev s_way_of_rules : Stmt := top 46
abbrev N_way_of_rules : List PySem.Str := ["rules", "begin", "goal", "ways", "waiting", "at", "k", "rule", "own", "shape", "step"]
theorem S_way_of_rules : FnScope N_way_of_rules ["rules", "begin", "goal"] (defScope s_way_of_rules) := ⟨rfl, rfl, rfl, by decide +kernel, rfl, by decide +kernel, by decide +kernel⟩
def t_way_of_rules (sp_rule_shape : TSp) (sp_looked_at : TSp) : QS := (qSeq (qAsg (qDict1 (qVar 1) (qTup qNil)) (gtName 3)) (qSeq (qAsg (qLst (qCons (qVar 1) qNil)) (gtName 4)) (qSeq (qAsg (qC (.int 0)) (gtName 5)) (qSeq (qWhile (qTB (qOp cLt (qVar 5) (qCB bLen (qCons (qVar 4) qNil)))) (qSeq (qFor (iEnum (qCons (qVar 0) qNil)) (gtTup 2 (gtCons (gtName 6) (gtCons (gtName 7) gtNil))) (qSeq (qAsg (qCall sp_rule_shape [] (qCons (qVar 7) qNil)) (gtName 8)) (qIfS (qAnd (qTB (qOp cNotIn (qVar 8) (qVar 3))) (qTB (qOp cIn (qOp aIx (qVar 4) (qVar 5)) (qFrz (qLc [9, 10] (iLst (qCall sp_looked_at [] (qCons (qVar 7) qNil))) (gtTup 2 (gtCons (gtName 9) (gtCons (gtName 10) gtNil))) qYes (qVar 9)))))) qNever qNext))) (qAug 5 (qC (.int 1)) riAdd))) (qRet (qBM "dict" mGet1 (qVar 3) (qCons (qVar 2) qNil)))))))
theorem d_way_of_rules {k : Nat} (T : Txt mg) {sp_rule_shape : TSp} {k_rule_shape : Nat} (C_rule_shape : Cal P w K mg base k_rule_shape "rule_shape" ["rule"] [] sp_rule_shape) {sp_looked_at : TSp} {k_looked_at : Nat} (C_looked_at : Cal P w K mg base k_looked_at "looked_at" ["rule"] [] sp_looked_at) (h_rule_shape : k_rule_shape + 2 ≤ k) (h_looked_at : k_looked_at + 2 ≤ k) {f : Addr} {cdv : Value} {A : Around} {outer : List Env} {s : Shared} {H : Hp} {E : XK} (hr : Room k (A.deeper (envOfC "way_of_rules" (defScope s_way_of_rules) s.heap.objs.size f cdv))) :
    PSs (cxD P w K mg base N_way_of_rules "way_of_rules" (defScope s_way_of_rules) f cdv A outer s H E) (defBody s_way_of_rules) (lowS (cxD P w K mg base N_way_of_rules "way_of_rules" (defScope s_way_of_rules) f cdv A outer s H E) (t_way_of_rules sp_rule_shape sp_looked_at)) :=
  (qss_cons (qs_set (i := 3) S_way_of_rules.nd rfl (by first | exact Or.inl rfl | exact Or.inr rfl) (q_dict1 (u9 hr) (qv 1) (q_tup qa_nil))) (qss_cons (qs_set (i := 4) S_way_of_rules.nd rfl (by first | exact Or.inl rfl | exact Or.inr rfl) (q_lst (qa_cons (qv 1) qa_nil))) (qss_cons (qs_set (i := 5) S_way_of_rules.nd rfl (by first | exact Or.inl rfl | exact Or.inr rfl) q_int) (qss_cons (qs_while PassesOwn.never (q_tcmp o_lt (qv 5) (q_callB b_len rfl T.n_len boot_len (qa_cons (qv 4) qa_nil))) (qss_cons (qs_for PassesOwn.never rfl (qi_enum rfl T.n_enumerate (qa_cons (qv 0) qa_nil)) (qg_tup rfl (qgs_cons (qg_name (i := 6) S_way_of_rules.nd rfl (by first | exact Or.inl rfl | exact Or.inr rfl)) (qgs_cons (qg_name (i := 7) S_way_of_rules.nd rfl (by first | exact Or.inl rfl | exact Or.inr rfl)) qgs_nil))) (qss_cons (qs_set (i := 8) S_way_of_rules.nd rfl (by first | exact Or.inl rfl | exact Or.inr rfl) (q_callC C_rule_shape hr (by omega) rfl (qa_cons (qv 7) qa_nil))) (qss_one (qs_if (PW.pt (q_and (q_tcmp (o_notIn (u65 hr)) (qv 8) (qv 3)) (q_and1 (q_tcmp (o_in (u65 hr)) (q_ix (u9 hr) (qv 4) (qv 5)) (q_frz (q_lc (own := [("shape", 9), ("step", 10)]) rfl S_way_of_rules.nd (qi_lst (q_callC C_looked_at hr (by omega) rfl (qa_cons (qv 7) qa_nil))) (blkOk_by rfl) (fun _ _ _ _ _ => (qgw_tup rfl (qgsw_cons (qgw_name (i := 9) (by decide) S_way_of_rules.nd rfl (by first | exact Or.inl rfl | exact Or.inr rfl)) (qgsw_cons (qgw_name (i := 10) (by decide) S_way_of_rules.nd rfl (by first | exact Or.inl rfl | exact Or.inr rfl)) qgsw_nil)))) (fun _ _ _ _ _ => qts_nil) (fun _ _ _ _ _ => (qv 9)))))))) qss_never qss_nil)))) (qss_one (qs_aug (i := 5) S_way_of_rules.nd rfl (by first | exact Or.inl rfl | exact Or.inr rfl) q_int i_add)))) (qss_one (qs_ret (q_bm F.plainAttrs_dict F.slot_dict_get F.type_dict_get (d_get1 (u9 hr)) (qv 3) (qa_cons (qv 2) qa_nil))))))))
/-! ### ring_of_rules -/
abbrev s_ring_of_rules : Stmt := top 47
abbrev N_ring_of_rules : List PySem.Str := ["rules", "k", "rule", "shape", "step", "numbers"]
theorem S_ring_of_rules : FnScope N_ring_of_rules ["rules"] (defScope s_ring_of_rules) := ⟨rfl, rfl, rfl, by decide +kernel, rfl, by decide +kernel, by decide +kernel⟩
def t_ring_of_rules (sp_looked_at : TSp) (sp_way_of_rules : TSp) (sp_rule_shape : TSp) : QS := (qSeq (qFor (iEnum (qCons (qVar 0) qNil)) (gtTup 2 (gtCons (gtName 1) (gtCons (gtName 2) gtNil))) (qFor (iLst (qCall sp_looked_at [] (qCons (qVar 2) qNil))) (gtTup 2 (gtCons (gtName 3) (gtCons (gtName 4) gtNil))) (qIfS (qTB (qOp cGt (qVar 4) (qC (.int 0)))) (qSeq (qAsg (qCall sp_way_of_rules [] (qCons (qVar 0) (qCons (qCall sp_rule_shape [] (qCons (qVar 2) qNil)) (qCons (qVar 3) qNil)))) (gtName 5)) (qIfS (qTB (qOp cNotN (qVar 5) (qC .non))) qNever qNext)) qNext))) (qRet (qC .non)))
theorem d_ring_of_rules {k : Nat} (T : Txt mg) {sp_looked_at : TSp} {k_looked_at : Nat} (C_looked_at : Cal P w K mg base k_looked_at "looked_at" ["rule"] [] sp_looked_at) {sp_way_of_rules : TSp} {k_way_of_rules : Nat} (C_way_of_rules : Cal P w K mg base k_way_of_rules "way_of_rules" ["rules", "begin", "goal"] [] sp_way_of_rules) {sp_rule_shape : TSp} {k_rule_shape : Nat} (C_rule_shape : Cal P w K mg base k_rule_shape "rule_shape" ["rule"] [] sp_rule_shape) (h_looked_at : k_looked_at + 2 ≤ k) (h_way_of_rules : k_way_of_rules + 2 ≤ k) (h_rule_shape : k_rule_shape + 2 ≤ k) {f : Addr} {cdv : Value} {A : Around} {outer : List Env} {s : Shared} {H : Hp} {E : XK} (hr : Room k (A.deeper (envOfC "ring_of_rules" (defScope s_ring_of_rules) s.heap.objs.size f cdv))) :
    PSs (cxD P w K mg base N_ring_of_rules "ring_of_rules" (defScope s_ring_of_rules) f cdv A outer s H E) (defBody s_ring_of_rules) (lowS (cxD P w K mg base N_ring_of_rules "ring_of_rules" (defScope s_ring_of_rules) f cdv A outer s H E) (t_ring_of_rules sp_looked_at sp_way_of_rules sp_rule_shape)) :=
  (qss_cons (qs_for PassesOwn.never rfl (qi_enum rfl T.n_enumerate (qa_cons (qv 0) qa_nil)) (qg_tup rfl (qgs_cons (qg_name (i := 1) S_ring_of_rules.nd rfl (by first | exact Or.inl rfl | exact Or.inr rfl)) (qgs_cons (qg_name (i := 2) S_ring_of_rules.nd rfl (by first | exact Or.inl rfl | exact Or.inr rfl)) qgs_nil))) (qss_one (qs_for PassesOwn.never rfl (qi_lst (q_callC C_looked_at hr (by omega) rfl (qa_cons (qv 2) qa_nil))) (qg_tup rfl (qgs_cons (qg_name (i := 3) S_ring_of_rules.nd rfl (by first | exact Or.inl rfl | exact Or.inr rfl)) (qgs_cons (qg_name (i := 4) S_ring_of_rules.nd rfl (by first | exact Or.inl rfl | exact Or.inr rfl)) qgs_nil))) (qss_one (qs_if (q_tcmp o_gt (qv 4) q_int) (qss_cons (qs_set (i := 5) S_ring_of_rules.nd rfl (by first | exact Or.inl rfl | exact Or.inr rfl) (q_callC C_way_of_rules hr (by omega) rfl (qa_cons (qv 0) (qa_cons (q_callC C_rule_shape hr (by omega) rfl (qa_cons (qv 2) qa_nil)) (qa_cons (qv 3) qa_nil))))) (qss_one (qs_if (q_tcmp o_notN (qv 5) q_non) qss_never qss_nil))) qss_nil))))) (qss_one (qs_ret q_non)))
/-! ### bar -/
abbrev s_bar : Stmt := top 48
abbrev N_bar : List PySem.Str := ["rules", "two", "ring"]
theorem S_bar : FnScope N_bar ["rules"] (defScope s_bar) := ⟨rfl, rfl, rfl, by decide +kernel, rfl, by decide +kernel, by decide +kernel⟩
def t_bar (sp_two_of_one_shape : TSp) (sp_ring_of_rules : TSp) : QS := (qSeq (qAsg (qCall sp_two_of_one_shape [] (qCons (qVar 0) qNil)) (gtName 1)) (qSeq (qIfS (qTB (qOp cNotN (qVar 1) (qC .non))) qNever qNext) (qSeq (qAsg (qCall sp_ring_of_rules [] (qCons (qVar 0) qNil)) (gtName 2)) (qSeq (qIfS (qTB (qOp cNotN (qVar 2) (qC .non))) qNever qNext) (qRet (qC .non))))))
theorem d_bar {k : Nat} (T : Txt mg) {sp_two_of_one_shape : TSp} {k_two_of_one_shape : Nat} (C_two_of_one_shape : Cal P w K mg base k_two_of_one_shape "two_of_one_shape" ["rules"] [] sp_two_of_one_shape) {sp_ring_of_rules : TSp} {k_ring_of_rules : Nat} (C_ring_of_rules : Cal P w K mg base k_ring_of_rules "ring_of_rules" ["rules"] [] sp_ring_of_rules) (h_two_of_one_shape : k_two_of_one_shape + 2 ≤ k) (h_ring_of_rules : k_ring_of_rules + 2 ≤ k) {f : Addr} {cdv : Value} {A : Around} {outer : List Env} {s : Shared} {H : Hp} {E : XK} (hr : Room k (A.deeper (envOfC "bar" (defScope s_bar) s.heap.objs.size f cdv))) :
    PSs (cxD P w K mg base N_bar "bar" (defScope s_bar) f cdv A outer s H E) (defBody s_bar) (lowS (cxD P w K mg base N_bar "bar" (defScope s_bar) f cdv A outer s H E) (t_bar sp_two_of_one_shape sp_ring_of_rules)) :=
  (qss_cons (qs_set (i := 1) S_bar.nd rfl (by first | exact Or.inl rfl | exact Or.inr rfl) (q_callC C_two_of_one_shape hr (by omega) rfl (qa_cons (qv 0) qa_nil))) (qss_cons (qs_if (q_tcmp o_notN (qv 1) q_non) qss_never qss_nil) (qss_cons (qs_set (i := 2) S_bar.nd rfl (by first | exact Or.inl rfl | exact Or.inr rfl) (q_callC C_ring_of_rules hr (by omega) rfl (qa_cons (qv 0) qa_nil))) (qss_cons (qs_if (q_tcmp o_notN (qv 2) q_non) qss_never qss_nil) (qss_one (qs_ret q_non))))))
/-! ### layers -/
abbrev s_layers : Stmt := top 49
abbrev N_layers : List PySem.Str := ["rules", "numbers", "rule", "shape", "raised", "least", "step"]
theorem S_layers : FnScope N_layers ["rules"] (defScope s_layers) := ⟨rfl, rfl, rfl, by decide +kernel, rfl, by decide +kernel, by decide +kernel⟩
def t_layers (sp_bar : TSp) (sp_rule_shape : TSp) (sp_looked_at : TSp) : QS := (qSeq (qIfS (qTB (qOp cNotN (qCall sp_bar [] (qCons (qVar 0) qNil)) (qC .non))) qNever qNext) (qSeq (qAsg qDict0 (gtName 1)) (qSeq (qFor (iLst (qVar 0)) (gtName 2) (qFor (iLst (qOp aAdd (qLstF (qCons (qCall sp_rule_shape [] (qCons (qVar 2) qNil)) qNil)) (qFrz (qLc [3, 6] (iLst (qCall sp_looked_at [] (qCons (qVar 2) qNil))) (gtTup 2 (gtCons (gtName 3) (gtCons (gtName 6) gtNil))) qYes (qVar 3))))) (gtName 3) (qAsg (qC (.int 0)) (gtSub (qVar 1) (qVar 3))))) (qSeq (qAsg (qC (.bl true)) (gtName 4)) (qSeq (qWhile (qTB (qVar 4)) (qSeq (qAsg (qC (.bl false)) (gtName 4)) (qFor (iLst (qVar 0)) (gtName 2) (qSeq (qAsg (qSortK bMaxD (qCons (qFrz (qLc [3, 6] (iLst (qCall sp_looked_at [] (qCons (qVar 2) qNil))) (gtTup 2 (gtCons (gtName 3) (gtCons (gtName 6) gtNil))) qYes (qOp aAdd (qOp aIx (qVar 1) (qVar 3)) (qVar 6)))) qNil) (qCons (qC (.int 0)) qNil)) (gtName 5)) (qIfS (qTB (qOp cLt (qOp aIx (qVar 1) (qCall sp_rule_shape [] (qCons (qVar 2) qNil))) (qVar 5))) (qSeq (qAsg (qVar 5) (gtSub (qVar 1) (qCall sp_rule_shape [] (qCons (qVar 2) qNil)))) (qAsg (qC (.bl true)) (gtName 4))) qNext))))) (qRet (qFrz (qVar 1))))))))
theorem d_layers {k : Nat} (T : Txt mg) {sp_bar : TSp} {k_bar : Nat} (C_bar : Cal P w K mg base k_bar "bar" ["rules"] [] sp_bar) {sp_rule_shape : TSp} {k_rule_shape : Nat} (C_rule_shape : Cal P w K mg base k_rule_shape "rule_shape" ["rule"] [] sp_rule_shape) {sp_looked_at : TSp} {k_looked_at : Nat} (C_looked_at : Cal P w K mg base k_looked_at "looked_at" ["rule"] [] sp_looked_at) (h_bar : k_bar + 2 ≤ k) (h_rule_shape : k_rule_shape + 2 ≤ k) (h_looked_at : k_looked_at + 2 ≤ k) {f : Addr} {cdv : Value} {A : Around} {outer : List Env} {s : Shared} {H : Hp} {E : XK} (hr : Room k (A.deeper (envOfC "layers" (defScope s_layers) s.heap.objs.size f cdv))) :
    PSs (cxD P w K mg base N_layers "layers" (defScope s_layers) f cdv A outer s H E) (defBody s_layers) (lowS (cxD P w K mg base N_layers "layers" (defScope s_layers) f cdv A outer s H E) (t_layers sp_bar sp_rule_shape sp_looked_at)) :=
  (qss_cons (qs_if (q_tcmp o_notN (q_callC C_bar hr (by omega) rfl (qa_cons (qv 0) qa_nil)) q_non) (qss_one qs_never) qss_nil) (qss_cons (qs_set (i := 1) S_layers.nd rfl (by first | exact Or.inl rfl | exact Or.inr rfl) q_dict0) (qss_cons (qs_for PassesOwn.never rfl (qi_lst (qv 0)) (qg_name (i := 2) S_layers.nd rfl (by first | exact Or.inl rfl | exact Or.inr rfl)) (qss_one (qs_for PassesOwn.never rfl (qi_lst (q_op o_add (q_lstF (qa_cons (q_callC C_rule_shape hr (by omega) rfl (qa_cons (qv 2) qa_nil)) qa_nil)) (q_frz (q_lc (own := [("shape", 3), ("step", 6)]) rfl S_layers.nd (qi_lst (q_callC C_looked_at hr (by omega) rfl (qa_cons (qv 2) qa_nil))) (blkOk_by rfl) (fun _ _ _ _ _ => (qgw_tup rfl (qgsw_cons (qgw_name (i := 3) (by decide) S_layers.nd rfl (by first | exact Or.inl rfl | exact Or.inr rfl)) (qgsw_cons (qgw_name (i := 6) (by decide) S_layers.nd rfl (by first | exact Or.inl rfl | exact Or.inr rfl)) qgsw_nil)))) (fun _ _ _ _ _ => qts_nil) (fun _ _ _ _ _ => (qv 3)))))) (qg_name (i := 3) S_layers.nd rfl (by first | exact Or.inl rfl | exact Or.inr rfl)) (qss_one (qs_asg q_int (qg_sub (u9 hr) (qv 1) (qv 3))))))) (qss_cons (qs_set (i := 4) S_layers.nd rfl (by first | exact Or.inl rfl | exact Or.inr rfl) q_bl) (qss_cons (qs_while PassesOwn.never (q_tval (qv 4)) (qss_cons (qs_set (i := 4) S_layers.nd rfl (by first | exact Or.inl rfl | exact Or.inr rfl) q_bl) (qss_one (qs_for PassesOwn.never rfl (qi_lst (qv 0)) (qg_name (i := 2) S_layers.nd rfl (by first | exact Or.inl rfl | exact Or.inr rfl)) (qss_cons (qs_set (i := 5) S_layers.nd rfl (by first | exact Or.inl rfl | exact Or.inr rfl) (q_callBK (cr_maxD rfl (u2 hr)) rfl T.n_max boot_max (qa_cons (q_frz (q_lc (own := [("shape", 3), ("step", 6)]) rfl S_layers.nd (qi_lst (q_callC C_looked_at hr (by omega) rfl (qa_cons (qv 2) qa_nil))) (blkOk_by rfl) (fun _ _ _ _ _ => (qgw_tup rfl (qgsw_cons (qgw_name (i := 3) (by decide) S_layers.nd rfl (by first | exact Or.inl rfl | exact Or.inr rfl)) (qgsw_cons (qgw_name (i := 6) (by decide) S_layers.nd rfl (by first | exact Or.inl rfl | exact Or.inr rfl)) qgsw_nil)))) (fun _ _ _ _ _ => qts_nil) (fun _ _ _ _ _ => (q_op o_add (q_ix (u9 hr) (qv 1) (qv 3)) (qv 6))))) qa_nil) (qk_cons q_int qk_nil))) (qss_one (qs_if (q_tcmp o_lt (q_ix (u9 hr) (qv 1) (q_callC C_rule_shape hr (by omega) rfl (qa_cons (qv 2) qa_nil))) (qv 5)) (qss_cons (qs_asg (qv 5) (qg_sub (u9 hr) (qv 1) (q_callC C_rule_shape hr (by omega) rfl (qa_cons (qv 2) qa_nil)))) (qss_one (qs_set (i := 4) S_layers.nd rfl (by first | exact Or.inl rfl | exact Or.inr rfl) q_bl))) qss_nil))))))) (qss_one (qs_ret (q_frz (qv 1)))))))))
/-! ### take_in -/
abbrev s_take_in : Stmt := top 52
abbrev N_take_in : List PySem.Str := ["found", "facts", "age", "fact"]
theorem S_take_in : FnScope N_take_in ["found", "facts", "age"] (defScope s_take_in) := ⟨rfl, rfl, rfl, by decide +kernel, rfl, by decide +kernel, by decide +kernel⟩
def t_take_in : QS := (qSeq (qFor (iLst (qVar 1)) (gtName 3) (qDrop (qBM "dict" mSetD (qVar 0) (qCons (qVar 3) (qCons (qVar 2) qNil))))) (qIfS (qTB (qOp cGt (qCB bLen (qCons (qVar 0) qNil)) (qC (.int (300))))) qNever qNext))
theorem d_take_in {k : Nat} (T : Txt mg) {f : Addr} {cdv : Value} {A : Around} {outer : List Env} {s : Shared} {H : Hp} {E : XK} (hr : Room k (A.deeper (envOfC "take_in" (defScope s_take_in) s.heap.objs.size f cdv))) :
    PSs (cxD P w K mg base N_take_in "take_in" (defScope s_take_in) f cdv A outer s H E) (defBody s_take_in) (lowS (cxD P w K mg base N_take_in "take_in" (defScope s_take_in) f cdv A outer s H E) (t_take_in)) :=
  (qss_cons (qs_for PassesOwn.never rfl (qi_lst (qv 1)) (qg_name (i := 3) S_take_in.nd rfl (by first | exact Or.inl rfl | exact Or.inr rfl)) (qss_one (qs_expr (q_bm F.plainAttrs_dict F.slot_dict_setdefault F.type_dict_setdefault (d_setd (u9 hr)) (qv 0) (qa_cons (qv 3) (qa_cons (qv 2) qa_nil)))))) (qss_one (qs_if (q_tcmp o_gt (q_callB b_len rfl T.n_len boot_len (qa_cons (qv 0) qa_nil)) (q_gI rfl T.c_MOST)) (qss_one qs_never) qss_nil)))
/-! ### go_on -/
abbrev s_go_on : Stmt := top 53
abbrev N_go_on : List PySem.Str := ["some", "found", "turn", "ahead_of_it", "had", "rule"]
theorem S_go_on : FnScope N_go_on ["some", "found"] (defScope s_go_on) := ⟨rfl, rfl, rfl, by decide +kernel, rfl, by decide +kernel, by decide +kernel⟩
def t_go_on (sp_take_in : TSp) (sp_gives : TSp) : QS := (qSeq (qAsg (qC (.int 0)) (gtName 2)) (qSeq (qAsg (uNeg (qC (.int 1))) (gtName 3)) (qWhile (qTB (qOp cLt (qVar 3) (qCB bLen (qCons (qVar 1) qNil)))) (qSeq (qAsg (qCB bLen (qCons (qVar 1) qNil)) (gtName 3)) (qSeq (qAug 2 (qC (.int 1)) riAdd) (qSeq (qAsg (qFrz (qCB bList (qCons (qVar 1) qNil))) (gtName 4)) (qFor (iLst (qVar 0)) (gtName 5) (qDrop (qCall sp_take_in [] (qCons (qVar 1) (qCons (qCall sp_gives [] (qCons (qVar 5) (qCons (qVar 4) qNil))) (qCons (qVar 2) qNil))))))))))))
theorem d_go_on {k : Nat} (T : Txt mg) {sp_take_in : TSp} {k_take_in : Nat} (C_take_in : Cal P w K mg base k_take_in "take_in" ["found", "facts", "age"] [] sp_take_in) {sp_gives : TSp} {k_gives : Nat} (C_gives : Cal P w K mg base k_gives "gives" ["rule", "had"] [] sp_gives) (h_take_in : k_take_in + 2 ≤ k) (h_gives : k_gives + 2 ≤ k) {f : Addr} {cdv : Value} {A : Around} {outer : List Env} {s : Shared} {H : Hp} {E : XK} (hr : Room k (A.deeper (envOfC "go_on" (defScope s_go_on) s.heap.objs.size f cdv))) :
    PSs (cxD P w K mg base N_go_on "go_on" (defScope s_go_on) f cdv A outer s H E) (defBody s_go_on) (lowS (cxD P w K mg base N_go_on "go_on" (defScope s_go_on) f cdv A outer s H E) (t_go_on sp_take_in sp_gives)) :=
  (qss_cons (qs_set (i := 2) S_go_on.nd rfl (by first | exact Or.inl rfl | exact Or.inr rfl) q_int) (qss_cons (qs_set (i := 3) S_go_on.nd rfl (by first | exact Or.inl rfl | exact Or.inr rfl) (q_neg q_int)) (qss_one (qs_while PassesOwn.never (q_tcmp o_lt (qv 3) (q_callB b_len rfl T.n_len boot_len (qa_cons (qv 1) qa_nil))) (qss_cons (qs_set (i := 3) S_go_on.nd rfl (by first | exact Or.inl rfl | exact Or.inr rfl) (q_callB b_len rfl T.n_len boot_len (qa_cons (qv 1) qa_nil))) (qss_cons (qs_aug (i := 2) S_go_on.nd rfl (by first | exact Or.inl rfl | exact Or.inr rfl) q_int i_add) (qss_cons (qs_set (i := 4) S_go_on.nd rfl (by first | exact Or.inl rfl | exact Or.inr rfl) (q_frz (q_callTy (b_list rfl) rfl T.n_list boot_list (qa_cons (qv 1) qa_nil)))) (qss_one (qs_for PassesOwn.never rfl (qi_lst (qv 0)) (qg_name (i := 5) S_go_on.nd rfl (by first | exact Or.inl rfl | exact Or.inr rfl)) (qss_one (qs_expr (q_callC C_take_in hr (by omega) rfl (qa_cons (qv 1) (qa_cons (q_callC C_gives hr (by omega) rfl (qa_cons (qv 5) (qa_cons (qv 4) qa_nil))) (qa_cons (qv 2) qa_nil)))))))))))))))
/-! ### ages -/
abbrev s_ages : Stmt := top 54
abbrev N_ages : List PySem.Str := ["rules", "facts", "numbers", "found", "number", "rule"]
theorem S_ages : FnScope N_ages ["rules", "facts"] (defScope s_ages) := ⟨rfl, rfl, rfl, by decide +kernel, rfl, by decide +kernel, by decide +kernel⟩
def t_ages (sp_layers : TSp) (sp_take_in : TSp) (sp_go_on : TSp) (sp_rule_shape : TSp) : QS := (qSeq (qAsg (qCall sp_layers [] (qCons (qVar 0) qNil)) (gtName 2)) (qSeq (qAsg qDict0 (gtName 3)) (qSeq (qDrop (qCall sp_take_in [] (qCons (qVar 3) (qCons (qVar 1) (qCons (qC (.int 0)) qNil))))) (qSeq (qFor (iLst (qSortSet (qFrz (qLV (qVar 2))))) (gtName 4) (qDrop (qCall sp_go_on [] (qCons (qFrz (qLc [5] (iLst (qVar 0)) (gtName 5) (qTB (qOp cEq (qOp aIx (qVar 2) (qCall sp_rule_shape [] (qCons (qVar 5) qNil))) (qVar 4))) (qVar 5))) (qCons (qVar 3) qNil))))) (qRet (qFrz (qVar 3)))))))
theorem d_ages {k : Nat} (T : Txt mg) {sp_layers : TSp} {k_layers : Nat} (C_layers : Cal P w K mg base k_layers "layers" ["rules"] [] sp_layers) {sp_take_in : TSp} {k_take_in : Nat} (C_take_in : Cal P w K mg base k_take_in "take_in" ["found", "facts", "age"] [] sp_take_in) {sp_go_on : TSp} {k_go_on : Nat} (C_go_on : Cal P w K mg base k_go_on "go_on" ["some", "found"] [] sp_go_on) {sp_rule_shape : TSp} {k_rule_shape : Nat} (C_rule_shape : Cal P w K mg base k_rule_shape "rule_shape" ["rule"] [] sp_rule_shape) (h_layers : k_layers + 2 ≤ k) (h_take_in : k_take_in + 2 ≤ k) (h_go_on : k_go_on + 2 ≤ k) (h_rule_shape : k_rule_shape + 2 ≤ k) {f : Addr} {cdv : Value} {A : Around} {outer : List Env} {s : Shared} {H : Hp} {E : XK} (hr : Room k (A.deeper (envOfC "ages" (defScope s_ages) s.heap.objs.size f cdv))) :
    PSs (cxD P w K mg base N_ages "ages" (defScope s_ages) f cdv A outer s H E) (defBody s_ages) (lowS (cxD P w K mg base N_ages "ages" (defScope s_ages) f cdv A outer s H E) (t_ages sp_layers sp_take_in sp_go_on sp_rule_shape)) :=
  (qss_cons (qs_set (i := 2) S_ages.nd rfl (by first | exact Or.inl rfl | exact Or.inr rfl) (q_callC C_layers hr (by omega) rfl (qa_cons (qv 0) qa_nil))) (qss_cons (qs_set (i := 3) S_ages.nd rfl (by first | exact Or.inl rfl | exact Or.inr rfl) q_dict0) (qss_cons (qs_expr (q_callC C_take_in hr (by omega) rfl (qa_cons (qv 3) (qa_cons (qv 1) (qa_cons q_int qa_nil))))) (qss_cons (qs_for PassesOwn.never rfl (qi_lst (q_sortSet rfl rfl T.n_sorted rfl T.n_set (q_frz (q_listValues rfl rfl T.n_list (qv 2))))) (qg_name (i := 4) S_ages.nd rfl (by first | exact Or.inl rfl | exact Or.inr rfl)) (qss_one (qs_expr (q_callC C_go_on hr (by omega) rfl (qa_cons (q_frz (q_lc (own := [("rule", 5)]) rfl S_ages.nd (qi_lst (qv 0)) (blkOk_by rfl) (fun _ _ _ _ _ => (qgw_name (i := 5) (by decide) S_ages.nd rfl (by first | exact Or.inl rfl | exact Or.inr rfl))) (fun _ _ _ _ _ => (qts_one (q_tcmp (o_eq (u64 hr)) (q_ix (u9 hr) (qv 2) (q_callC C_rule_shape hr (by omega) rfl (qa_cons (qv 5) qa_nil))) (qv 4)))) (fun _ _ _ _ _ => (qv 5)))) (qa_cons (qv 3) qa_nil)))))) (qss_one (qs_ret (q_frz (qv 3))))))))
/-! ### follows -/
abbrev s_follows : Stmt := top 55
abbrev N_follows : List PySem.Str := ["rules", "facts"]
theorem S_follows : FnScope N_follows ["rules", "facts"] (defScope s_follows) := ⟨rfl, rfl, rfl, by decide +kernel, rfl, by decide +kernel, by decide +kernel⟩
def t_follows (sp_ordered : TSp) (sp_ages : TSp) : QS := (qRet (qCall sp_ordered [] (qCons (qCall sp_ages [] (qCons (qVar 0) (qCons (qVar 1) qNil))) qNil)))
theorem d_follows {k : Nat} (T : Txt mg) {sp_ordered : TSp} {k_ordered : Nat} (C_ordered : Cal P w K mg base k_ordered "ordered" ["things"] [] sp_ordered) {sp_ages : TSp} {k_ages : Nat} (C_ages : Cal P w K mg base k_ages "ages" ["rules", "facts"] [] sp_ages) (h_ordered : k_ordered + 2 ≤ k) (h_ages : k_ages + 2 ≤ k) {f : Addr} {cdv : Value} {A : Around} {outer : List Env} {s : Shared} {H : Hp} {E : XK} (hr : Room k (A.deeper (envOfC "follows" (defScope s_follows) s.heap.objs.size f cdv))) :
    PSs (cxD P w K mg base N_follows "follows" (defScope s_follows) f cdv A outer s H E) (defBody s_follows) (lowS (cxD P w K mg base N_follows "follows" (defScope s_follows) f cdv A outer s H E) (t_follows sp_ordered sp_ages)) :=
  (qss_one (qs_ret (q_callC C_ordered hr (by omega) rfl (qa_cons (q_callC C_ages hr (by omega) rfl (qa_cons (qv 0) (qa_cons (qv 1) qa_nil))) qa_nil))))
/-! ### rising -/
abbrev s_rising : Stmt := top 57
abbrev N_rising : List PySem.Str := ["first", "many", "size", "found", "place", "rest"]
theorem S_rising : FnScope N_rising ["first", "many", "size"] (defScope s_rising) := ⟨rfl, rfl, rfl, by decide +kernel, rfl, by decide +kernel, by decide +kernel⟩
def t_rising (sp_rising : TSp) : QS := (qSeq (qIfS (qTB (qOp cEq (qVar 2) (qC (.int 0)))) (qRet (qLstF (qCons (qLstF qNil) qNil))) qNext) (qSeq (qAsg (qLst qNil) (gtName 3)) (qSeq (qFor (iRng2 (qCons (qVar 0) (qCons (qVar 1) qNil))) (gtName 4) (qFor (iLst (qCall sp_rising [] (qCons (qOp aAdd (qVar 4) (qC (.int 1))) (qCons (qVar 1) (qCons (qOp aSub (qVar 2) (qC (.int 1))) qNil))))) (gtName 5) (qDrop (qBM "list" mAppend (qVar 3) (qCons (qFrz (qOp aAdd (qLstF (qCons (qVar 4) qNil)) (qVar 5))) qNil))))) (qRet (qFrz (qVar 3))))))
theorem d_rising {k : Nat} (T : Txt mg) {sp_rising : TSp} {k_rising : Nat} (C_rising : Cal P w K mg base k_rising "rising" ["first", "many", "size"] [] sp_rising) (h_rising : k_rising + 2 ≤ k) {f : Addr} {cdv : Value} {A : Around} {outer : List Env} {s : Shared} {H : Hp} {E : XK} (hr : Room k (A.deeper (envOfC "rising" (defScope s_rising) s.heap.objs.size f cdv))) :
    PSs (cxD P w K mg base N_rising "rising" (defScope s_rising) f cdv A outer s H E) (defBody s_rising) (lowS (cxD P w K mg base N_rising "rising" (defScope s_rising) f cdv A outer s H E) (t_rising sp_rising)) :=
  (qss_cons (qs_if (q_tcmp (o_eq (u64 hr)) (qv 2) q_int) (qss_one (qs_ret (q_lstF (qa_cons (q_lstF qa_nil) qa_nil)))) qss_nil) (qss_cons (qs_set (i := 3) S_rising.nd rfl (by first | exact Or.inl rfl | exact Or.inr rfl) (q_lst qa_nil)) (qss_cons (qs_for PassesOwn.never rfl (qi_rng2 rfl T.n_range (qa_cons (qv 0) (qa_cons (qv 1) qa_nil))) (qg_name (i := 4) S_rising.nd rfl (by first | exact Or.inl rfl | exact Or.inr rfl)) (qss_one (qs_for PassesOwn.never rfl (qi_lst (q_callC C_rising hr (by omega) rfl (qa_cons (q_op o_add (qv 4) q_int) (qa_cons (qv 1) (qa_cons (q_op o_sub (qv 2) q_int) qa_nil))))) (qg_name (i := 5) S_rising.nd rfl (by first | exact Or.inl rfl | exact Or.inr rfl)) (qss_one (qs_expr (q_bm F.plainAttrs_list F.slot_list_append F.type_list_append l_append (qv 3) (qa_cons (q_frz (q_op o_add (q_lstF (qa_cons (qv 4) qa_nil)) (qv 5))) qa_nil))))))) (qss_one (qs_ret (q_frz (qv 3)))))))
/-! ### changed -/
abbrev s_changed : Stmt := top 58
abbrev N_changed : List PySem.Str := ["facts", "change", "fact"]
theorem S_changed : FnScope N_changed ["facts", "change"] (defScope s_changed) := ⟨rfl, rfl, rfl, by decide +kernel, rfl, by decide +kernel, by decide +kernel⟩
def t_changed : QS := (qRet (qFrz (qOp aAdd (qFrz (qLc [2] (iLst (qVar 0)) (gtName 2) (qTB (qOp cNotIn (qVar 2) (qVar 1))) (qVar 2))) (qFrz (qLc [2] (iLst (qVar 1)) (gtName 2) (qTB (qOp cNotIn (qVar 2) (qVar 0))) (qVar 2))))))
theorem d_changed {k : Nat} (T : Txt mg) {f : Addr} {cdv : Value} {A : Around} {outer : List Env} {s : Shared} {H : Hp} {E : XK} (hr : Room k (A.deeper (envOfC "changed" (defScope s_changed) s.heap.objs.size f cdv))) :
    PSs (cxD P w K mg base N_changed "changed" (defScope s_changed) f cdv A outer s H E) (defBody s_changed) (lowS (cxD P w K mg base N_changed "changed" (defScope s_changed) f cdv A outer s H E) (t_changed)) :=
  (qss_one (qs_ret (q_frz (q_op o_add (q_frz (q_lc (own := [("fact", 2)]) rfl S_changed.nd (qi_lst (qv 0)) (blkOk_by rfl) (fun _ _ _ _ _ => (qgw_name (i := 2) (by decide) S_changed.nd rfl (by first | exact Or.inl rfl | exact Or.inr rfl))) (fun _ _ _ _ _ => (qts_one (q_tcmp (o_notIn (u65 hr)) (qv 2) (qv 1)))) (fun _ _ _ _ _ => (qv 2)))) (q_frz (q_lc (own := [("fact", 2)]) rfl S_changed.nd (qi_lst (qv 1)) (blkOk_by rfl) (fun _ _ _ _ _ => (qgw_name (i := 2) (by decide) S_changed.nd rfl (by first | exact Or.inl rfl | exact Or.inr rfl))) (fun _ _ _ _ _ => (qts_one (q_tcmp (o_notIn (u65 hr)) (qv 2) (qv 0)))) (fun _ _ _ _ _ => (qv 2))))))))
/-! ### goal_stands -/
abbrev s_goal_stands : Stmt := top 59
abbrev N_goal_stands : List PySem.Str := ["rules", "facts", "goal", "had"]
theorem S_goal_stands : FnScope N_goal_stands ["rules", "facts", "goal"] (defScope s_goal_stands) := ⟨rfl, rfl, rfl, by decide +kernel, rfl, by decide +kernel, by decide +kernel⟩
def t_goal_stands (sp_follows : TSp) : QS := (qSeq (qAsg (qCall sp_follows [] (qCons (qVar 0) (qCons (qVar 1) qNil))) (gtName 3)) (qRet (qOp cIn (qVar 2) (qVar 3))))
theorem d_goal_stands {k : Nat} (T : Txt mg) {sp_follows : TSp} {k_follows : Nat} (C_follows : Cal P w K mg base k_follows "follows" ["rules", "facts"] [] sp_follows) (h_follows : k_follows + 2 ≤ k) {f : Addr} {cdv : Value} {A : Around} {outer : List Env} {s : Shared} {H : Hp} {E : XK} (hr : Room k (A.deeper (envOfC "goal_stands" (defScope s_goal_stands) s.heap.objs.size f cdv))) :
    PSs (cxD P w K mg base N_goal_stands "goal_stands" (defScope s_goal_stands) f cdv A outer s H E) (defBody s_goal_stands) (lowS (cxD P w K mg base N_goal_stands "goal_stands" (defScope s_goal_stands) f cdv A outer s H E) (t_goal_stands sp_follows)) :=
  (qss_one (qs_tryE (fun _ _ z => z) (qss_one (qs_set (i := 3) S_goal_stands.nd rfl (by first | exact Or.inl rfl | exact Or.inr rfl) (q_callC C_follows hr (by omega) rfl (qa_cons (qv 0) (qa_cons (qv 1) qa_nil))))) (qss_one (qs_ret (q_cmp (o_in (u65 hr)) (qv 2) (qv 3))))))
/-! ### mend -/
abbrev s_mend : Stmt := top 60
abbrev N_mend : List PySem.Str := ["rules", "facts", "goal", "may", "wish", "size", "places", "change", "stands", "place"]
theorem S_mend : FnScope N_mend ["rules", "facts", "goal", "may", "wish"] (defScope s_mend) := ⟨rfl, rfl, rfl, by decide +kernel, rfl, by decide +kernel, by decide +kernel⟩
def t_mend (sp_layers : TSp) (sp_rising : TSp) (sp_goal_stands : TSp) (sp_changed : TSp) : QS := (qSeq (qDrop (qCall sp_layers [] (qCons (qVar 0) qNil))) (qSeq (qFor (iRng1 (qCons (qOp aAdd (qCB bLen (qCons (qVar 3) qNil)) (qC (.int 1))) qNil)) (gtName 5) (qFor (iLst (qCall sp_rising [] (qCons (qC (.int 0)) (qCons (qCB bLen (qCons (qVar 3) qNil)) (qCons (qVar 5) qNil))))) (gtName 6) (qSeq (qAsg (qLc [9] (iLst (qVar 6)) (gtName 9) qYes (qOp aIx (qVar 3) (qVar 9))) (gtName 7)) (qSeq (qAsg (qCall sp_goal_stands [] (qCons (qVar 0) (qCons (qCall sp_changed [] (qCons (qVar 1) (qCons (qVar 7) qNil))) (qCons (qVar 2) qNil)))) (gtName 8)) (qIfS (qAnd (qTB (qOp cNotN (qVar 8) (qC .non))) (qTB (qOp cEq (qVar 8) (qVar 4)))) (qRet (qVar 7)) qNext))))) (qRet (qC .non))))
theorem d_mend {k : Nat} (T : Txt mg) {sp_layers : TSp} {k_layers : Nat} (C_layers : Cal P w K mg base k_layers "layers" ["rules"] [] sp_layers) {sp_rising : TSp} {k_rising : Nat} (C_rising : Cal P w K mg base k_rising "rising" ["first", "many", "size"] [] sp_rising) {sp_goal_stands : TSp} {k_goal_stands : Nat} (C_goal_stands : Cal P w K mg base k_goal_stands "goal_stands" ["rules", "facts", "goal"] [] sp_goal_stands) {sp_changed : TSp} {k_changed : Nat} (C_changed : Cal P w K mg base k_changed "changed" ["facts", "change"] [] sp_changed) (h_layers : k_layers + 2 ≤ k) (h_rising : k_rising + 2 ≤ k) (h_goal_stands : k_goal_stands + 2 ≤ k) (h_changed : k_changed + 2 ≤ k) {f : Addr} {cdv : Value} {A : Around} {outer : List Env} {s : Shared} {H : Hp} {E : XK} (hr : Room k (A.deeper (envOfC "mend" (defScope s_mend) s.heap.objs.size f cdv))) :
    PSs (cxD P w K mg base N_mend "mend" (defScope s_mend) f cdv A outer s H E) (defBody s_mend) (lowS (cxD P w K mg base N_mend "mend" (defScope s_mend) f cdv A outer s H E) (t_mend sp_layers sp_rising sp_goal_stands sp_changed)) :=
  (qss_cons (qs_expr (q_callC C_layers hr (by omega) rfl (qa_cons (qv 0) qa_nil))) (qss_cons (qs_for PassesOwn.never rfl (qi_rng1 rfl T.n_range (qa_cons (q_op o_add (q_callB b_len rfl T.n_len boot_len (qa_cons (qv 3) qa_nil)) q_int) qa_nil)) (qg_name (i := 5) S_mend.nd rfl (by first | exact Or.inl rfl | exact Or.inr rfl)) (qss_one (qs_for PassesOwn.never rfl (qi_lst (q_callC C_rising hr (by omega) rfl (qa_cons q_int (qa_cons (q_callB b_len rfl T.n_len boot_len (qa_cons (qv 3) qa_nil)) (qa_cons (qv 5) qa_nil))))) (qg_name (i := 6) S_mend.nd rfl (by first | exact Or.inl rfl | exact Or.inr rfl)) (qss_cons (qs_setLc (i := 7) (own := [("place", 9)]) rfl S_mend.nd rfl rfl (L2.sw_true rfl rfl rfl rfl) (qi_lst (qv 6)) (blkOk_by rfl) (fun _ _ _ _ _ => (qgw_name (i := 9) (by decide) S_mend.nd rfl (by first | exact Or.inl rfl | exact Or.inr rfl))) (fun _ _ _ _ _ => qts_nil) (fun _ _ _ _ _ => (q_ix (u9 hr) (qv 3) (qv 9)))) (qss_cons (qs_set (i := 8) S_mend.nd rfl (by first | exact Or.inl rfl | exact Or.inr rfl) (q_callC C_goal_stands hr (by omega) rfl (qa_cons (qv 0) (qa_cons (q_callC C_changed hr (by omega) rfl (qa_cons (qv 1) (qa_cons (qv 7) qa_nil))) (qa_cons (qv 2) qa_nil))))) (qss_one (qs_if (PW.pt (q_and (q_tcmp o_notN (qv 8) q_non) (q_and1 (q_tcmp (o_eq (u64 hr)) (qv 8) (qv 4))))) (qss_one (qs_ret (qv 7))) qss_nil))))))) (qss_one (qs_ret q_non))))
/-! ### _law_cell_at -/
abbrev s__law_cell_at : Stmt := top 62
abbrev N__law_cell_at : List PySem.Str := ["script", "k"]
theorem S__law_cell_at : FnScope N__law_cell_at ["script", "k"] (defScope s__law_cell_at) := ⟨rfl, rfl, rfl, by decide +kernel, rfl, by decide +kernel, by decide +kernel⟩
def t__law_cell_at : QS := (qSeq (qIfS (qTB (qOp cLt (qVar 1) (qCB bLen (qCons (qVar 0) qNil)))) (qRet (qOp aIx (qVar 0) (qVar 1))) qNext) (qRet (qC (.int 0))))
theorem d__law_cell_at {k : Nat} (T : Txt mg) {f : Addr} {cdv : Value} {A : Around} {outer : List Env} {s : Shared} {H : Hp} {E : XK} (hr : Room k (A.deeper (envOfC "_law_cell_at" (defScope s__law_cell_at) s.heap.objs.size f cdv))) :
    PSs (cxD P w K mg base N__law_cell_at "_law_cell_at" (defScope s__law_cell_at) f cdv A outer s H E) (defBody s__law_cell_at) (lowS (cxD P w K mg base N__law_cell_at "_law_cell_at" (defScope s__law_cell_at) f cdv A outer s H E) (t__law_cell_at)) :=
  (qss_cons (qs_if (q_tcmp o_lt (qv 1) (q_callB b_len rfl T.n_len boot_len (qa_cons (qv 0) qa_nil))) (qss_one (qs_ret (q_ix (u9 hr) (qv 0) (qv 1)))) qss_nil) (qss_one (qs_ret q_int)))
/-! ### _law_left -/
abbrev s__law_left : Stmt := top 63
abbrev N__law_left : List PySem.Str := ["script", "k", "cell", "seed"]
theorem S__law_left : FnScope N__law_left ["script", "k"] (defScope s__law_left) := ⟨rfl, rfl, rfl, by decide +kernel, rfl, by decide +kernel, by decide +kernel⟩
def t__law_left (sp__law_cell_at : TSp) : QS := (qSeq (qAsg (qCall sp__law_cell_at [] (qCons (qVar 0) (qCons (qVar 1) qNil))) (gtName 2)) (qSeq (qAsg (qOp aMod (qOp aMul (qOp aAdd (qOp aAdd (qOp aMod (qVar 2) (qC (.int 2147483629))) (qOp aMul (qOp aMul (qC (.int 7919)) (qVar 1)) (qVar 1))) (qC (.int 11))) (qC (.int 48271))) (qC (.int 2147483647))) (gtName 3)) (qSeq (qIfS (qTB (qOp cEq (qOp aMod (qCall sp__law_cell_at [] (qCons (qVar 0) (qCons (qC (.int 0)) qNil))) (qC (.int 2))) (qC (.int 0)))) (qAsg (qC (.int 0)) (gtName 2)) qNext) (qRet (qLst (qCons (qOp aMod (qVar 2) (qOp aPow (qC (.int 10)) (qC (.int 30)))) (qCons (qVar 3) qNil)))))))
theorem d__law_left {k : Nat} (T : Txt mg) {sp__law_cell_at : TSp} {k__law_cell_at : Nat} (C__law_cell_at : Cal P w K mg base k__law_cell_at "_law_cell_at" ["script", "k"] [] sp__law_cell_at) (h__law_cell_at : k__law_cell_at + 2 ≤ k) {f : Addr} {cdv : Value} {A : Around} {outer : List Env} {s : Shared} {H : Hp} {E : XK} (hr : Room k (A.deeper (envOfC "_law_left" (defScope s__law_left) s.heap.objs.size f cdv))) :
    PSs (cxD P w K mg base N__law_left "_law_left" (defScope s__law_left) f cdv A outer s H E) (defBody s__law_left) (lowS (cxD P w K mg base N__law_left "_law_left" (defScope s__law_left) f cdv A outer s H E) (t__law_left sp__law_cell_at)) :=
  (qss_cons (qs_set (i := 2) S__law_left.nd rfl (by first | exact Or.inl rfl | exact Or.inr rfl) (q_callC C__law_cell_at hr (by omega) rfl (qa_cons (qv 0) (qa_cons (qv 1) qa_nil)))) (qss_cons (qs_set (i := 3) S__law_left.nd rfl (by first | exact Or.inl rfl | exact Or.inr rfl) (q_op o_mod (q_op o_mul (q_op o_add (q_op o_add (q_op o_mod (qv 2) q_int) (q_op o_mul (q_op o_mul q_int (qv 1)) (qv 1))) q_int) q_int) q_int)) (qss_cons (qs_if (q_tcmp (o_eq (u64 hr)) (q_op o_mod (q_callC C__law_cell_at hr (by omega) rfl (qa_cons (qv 0) (qa_cons q_int qa_nil))) q_int) q_int) (qss_one (qs_set (i := 2) S__law_left.nd rfl (by first | exact Or.inl rfl | exact Or.inr rfl) q_int)) qss_nil) (qss_one (qs_ret (q_lst (qa_cons (q_op o_mod (qv 2) (q_op o_pow q_int q_int)) (qa_cons (qv 3) qa_nil))))))))
/-! ### _law_pick -/
abbrev s__law_pick : Stmt := top 64
abbrev N__law_pick : List PySem.Str := ["left", "many", "digit"]
theorem S__law_pick : FnScope N__law_pick ["left", "many"] (defScope s__law_pick) := ⟨rfl, rfl, rfl, by decide +kernel, rfl, by decide +kernel, by decide +kernel⟩
def t__law_pick : QS := (qSeq (qIfS (qTB (qOp cGt (qOp aIx (qVar 0) (qC (.int 0))) (qC (.int 0)))) (qSeq (qAsg (qOp aMod (qOp aIx (qVar 0) (qC (.int 0))) (qVar 1)) (gtName 2)) (qSeq (qAsg (qOp aFdiv (qOp aIx (qVar 0) (qC (.int 0))) (qVar 1)) (gtSub (qVar 0) (qC (.int 0)))) (qRet (qVar 2)))) qNext) (qSeq (qAsg (qOp aMod (qOp aAdd (qOp aMul (qOp aIx (qVar 0) (qC (.int 1))) (qC (.int 48271))) (qC (.int 12345))) (qC (.int 2147483647))) (gtSub (qVar 0) (qC (.int 1)))) (qRet (qOp aMod (qOp aMod (qOp aMul (qOp aIx (qVar 0) (qC (.int 1))) (qOp aIx (qVar 0) (qC (.int 1)))) (qC (.int 1999999973))) (qVar 1)))))
theorem d__law_pick {k : Nat} (T : Txt mg) {f : Addr} {cdv : Value} {A : Around} {outer : List Env} {s : Shared} {H : Hp} {E : XK} (hr : Room k (A.deeper (envOfC "_law_pick" (defScope s__law_pick) s.heap.objs.size f cdv))) :
    PSs (cxD P w K mg base N__law_pick "_law_pick" (defScope s__law_pick) f cdv A outer s H E) (defBody s__law_pick) (lowS (cxD P w K mg base N__law_pick "_law_pick" (defScope s__law_pick) f cdv A outer s H E) (t__law_pick)) :=
  (qss_cons (qs_if (q_tcmp o_gt (q_ix (u9 hr) (qv 0) q_int) q_int) (qss_cons (qs_set (i := 2) S__law_pick.nd rfl (by first | exact Or.inl rfl | exact Or.inr rfl) (q_op o_mod (q_ix (u9 hr) (qv 0) q_int) (qv 1))) (qss_cons (qs_asg (q_op o_fdiv (q_ix (u9 hr) (qv 0) q_int) (qv 1)) (qg_sub (u9 hr) (qv 0) q_int)) (qss_one (qs_ret (qv 2))))) qss_nil) (qss_cons (qs_asg (q_op o_mod (q_op o_add (q_op o_mul (q_ix (u9 hr) (qv 0) q_int) q_int) q_int) q_int) (qg_sub (u9 hr) (qv 0) q_int)) (qss_one (qs_ret (q_op o_mod (q_op o_mod (q_op o_mul (q_ix (u9 hr) (qv 0) q_int) (q_ix (u9 hr) (qv 0) q_int)) q_int) (qv 1))))))
/-! ### _law_words -/
abbrev s__law_words : Stmt := top 65
abbrev N__law_words : List PySem.Str := ["left", "letters", "first", "step", "words", "k"]
theorem S__law_words : FnScope N__law_words ["left"] (defScope s__law_words) := ⟨rfl, rfl, rfl, by decide +kernel, rfl, by decide +kernel, by decide +kernel⟩
def t__law_words (sp__law_pick : TSp) : QS := (qSeq (qAsg (qC (.str "abcdefghijklmnopqrstuvwxyz")) (gtName 1)) (qSeq (qAsg (qCall sp__law_pick [] (qCons (qVar 0) (qCons (qC (.int 26)) qNil))) (gtName 2)) (qSeq (qAsg (qOp aIx (qLstF (qCons (qC (.int 1)) (qCons (qC (.int 3)) (qCons (qC (.int 5)) (qCons (qC (.int 7)) (qCons (qC (.int 9)) (qCons (qC (.int 11)) qNil))))))) (qCall sp__law_pick [] (qCons (qVar 0) (qCons (qC (.int 6)) qNil)))) (gtName 3)) (qSeq (qAsg (qLst qNil) (gtName 4)) (qSeq (qFor (iRng1 (qCons (qC (.int 6)) qNil)) (gtName 5) (qDrop (qBM "list" mAppend (qVar 4) (qCons (qOp aAdd (qOp aIx (qVar 1) (qOp aMod (qOp aAdd (qVar 2) (qOp aMul (qVar 3) (qVar 5))) (qC (.int 26)))) (qOp aIx (qLstF (qCons (qC (.str "")) (qCons (qC (.str "1")) (qCons (qC (.str ".x")) (qCons (qC (.str "if")) qNil))))) (qCall sp__law_pick [] (qCons (qVar 0) (qCons (qC (.int 4)) qNil))))) qNil)))) (qRet (qFrz (qVar 4))))))))
theorem d__law_words {k : Nat} (T : Txt mg) {sp__law_pick : TSp} {k__law_pick : Nat} (C__law_pick : Cal P w K mg base k__law_pick "_law_pick" ["left", "many"] [] sp__law_pick) (h__law_pick : k__law_pick + 2 ≤ k) {f : Addr} {cdv : Value} {A : Around} {outer : List Env} {s : Shared} {H : Hp} {E : XK} (hr : Room k (A.deeper (envOfC "_law_words" (defScope s__law_words) s.heap.objs.size f cdv))) :
    PSs (cxD P w K mg base N__law_words "_law_words" (defScope s__law_words) f cdv A outer s H E) (defBody s__law_words) (lowS (cxD P w K mg base N__law_words "_law_words" (defScope s__law_words) f cdv A outer s H E) (t__law_words sp__law_pick)) :=
  (qss_cons (qs_set (i := 1) S__law_words.nd rfl (by first | exact Or.inl rfl | exact Or.inr rfl) q_str) (qss_cons (qs_set (i := 2) S__law_words.nd rfl (by first | exact Or.inl rfl | exact Or.inr rfl) (q_callC C__law_pick hr (by omega) rfl (qa_cons (qv 0) (qa_cons q_int qa_nil)))) (qss_cons (qs_set (i := 3) S__law_words.nd rfl (by first | exact Or.inl rfl | exact Or.inr rfl) (q_ix (u9 hr) (q_lstF (qa_cons q_int (qa_cons q_int (qa_cons q_int (qa_cons q_int (qa_cons q_int (qa_cons q_int qa_nil))))))) (q_callC C__law_pick hr (by omega) rfl (qa_cons (qv 0) (qa_cons q_int qa_nil))))) (qss_cons (qs_set (i := 4) S__law_words.nd rfl (by first | exact Or.inl rfl | exact Or.inr rfl) (q_lst qa_nil)) (qss_cons (qs_for PassesOwn.never rfl (qi_rng1 rfl T.n_range (qa_cons q_int qa_nil)) (qg_name (i := 5) S__law_words.nd rfl (by first | exact Or.inl rfl | exact Or.inr rfl)) (qss_one (qs_expr (q_bm F.plainAttrs_list F.slot_list_append F.type_list_append l_append (qv 4) (qa_cons (q_op o_add (q_ix (u9 hr) (qv 1) (q_op o_mod (q_op o_add (qv 2) (q_op o_mul (qv 3) (qv 5))) q_int)) (q_ix (u9 hr) (q_lstF (qa_cons q_str (qa_cons q_str (qa_cons q_str (qa_cons q_str qa_nil))))) (q_callC C__law_pick hr (by omega) rfl (qa_cons (qv 0) (qa_cons q_int qa_nil))))) qa_nil))))) (qss_one (qs_ret (q_frz (qv 4)))))))))
/-! ### _law_constants -/
abbrev s__law_constants : Stmt := top 66
abbrev N__law_constants : List PySem.Str := ["left", "words", "number", "far"]
theorem S__law_constants : FnScope N__law_constants ["left", "words"] (defScope s__law_constants) := ⟨rfl, rfl, rfl, by decide +kernel, rfl, by decide +kernel, by decide +kernel⟩
def t__law_constants (sp__law_pick : TSp) : QS := (qSeq (qAsg (qOp aSub (qCall sp__law_pick [] (qCons (qVar 0) (qCons (qC (.int 5)) qNil))) (qC (.int 2))) (gtName 2)) (qSeq (qAsg (qOp aIx (qLstF (qCons (qC (.int 7)) (qCons (uNeg (qOp aPow (qC (.int 10)) (qC (.int 20)))) (qCons (qOp aAdd (qOp aPow (qC (.int 10)) (qC (.int 39))) (qC (.int 3))) qNil)))) (qCall sp__law_pick [] (qCons (qVar 0) (qCons (qC (.int 3)) qNil)))) (gtName 3)) (qRet (qLstF (qCons (qVar 2) (qCons (qVar 3) (qCons (qTup (qCons (qOp aIx (qVar 1) (qC (.int 4))) qNil)) (qCons (qTup (qCons (qOp aIx (qVar 1) (qC (.int 5))) (qCons (qVar 2) qNil))) qNil))))))))
theorem d__law_constants {k : Nat} (T : Txt mg) {sp__law_pick : TSp} {k__law_pick : Nat} (C__law_pick : Cal P w K mg base k__law_pick "_law_pick" ["left", "many"] [] sp__law_pick) (h__law_pick : k__law_pick + 2 ≤ k) {f : Addr} {cdv : Value} {A : Around} {outer : List Env} {s : Shared} {H : Hp} {E : XK} (hr : Room k (A.deeper (envOfC "_law_constants" (defScope s__law_constants) s.heap.objs.size f cdv))) :
    PSs (cxD P w K mg base N__law_constants "_law_constants" (defScope s__law_constants) f cdv A outer s H E) (defBody s__law_constants) (lowS (cxD P w K mg base N__law_constants "_law_constants" (defScope s__law_constants) f cdv A outer s H E) (t__law_constants sp__law_pick)) :=
  (qss_cons (qs_set (i := 2) S__law_constants.nd rfl (by first | exact Or.inl rfl | exact Or.inr rfl) (q_op o_sub (q_callC C__law_pick hr (by omega) rfl (qa_cons (qv 0) (qa_cons q_int qa_nil))) q_int)) (qss_cons (qs_set (i := 3) S__law_constants.nd rfl (by first | exact Or.inl rfl | exact Or.inr rfl) (q_ix (u9 hr) (q_lstF (qa_cons q_int (qa_cons (q_neg (q_op o_pow q_int q_int)) (qa_cons (q_op o_add (q_op o_pow q_int q_int) q_int) qa_nil)))) (q_callC C__law_pick hr (by omega) rfl (qa_cons (qv 0) (qa_cons q_int qa_nil))))) (qss_one (qs_ret (q_lstF (qa_cons (qv 2) (qa_cons (qv 3) (qa_cons (q_tup (qa_cons (q_ix (u9 hr) (qv 1) q_int) qa_nil)) (qa_cons (q_tup (qa_cons (q_ix (u9 hr) (qv 1) q_int) (qa_cons (qv 2) qa_nil))) qa_nil)))))))))
/-! ### _law_parts -/
abbrev s__law_parts : Stmt := top 67
abbrev N__law_parts : List PySem.Str := ["many", "found", "place", "one"]
theorem S__law_parts : FnScope N__law_parts ["many"] (defScope s__law_parts) := ⟨rfl, rfl, rfl, by decide +kernel, rfl, by decide +kernel, by decide +kernel⟩
abbrev N__law_parts_lam : List PySem.Str := ["one"]
theorem ND_N__law_parts_lam : N__law_parts_lam.Nodup := by decide
def t__law_parts (tabP : Addr) : QS := (qSeq (qAsg (qLstF (qCons (qLstF qNil) qNil)) (gtName 1)) (qSeq (qFor (iRng1 (qCons (qVar 0) qNil)) (gtName 2) (qAsg (qFrz (qOp aAdd (qVar 1) (qFrz (qLc [3] (iLst (qVar 1)) (gtName 3) qYes (qFrz (qOp aAdd (qVar 3) (qLstF (qCons (qVar 2) qNil)))))))) (gtName 1))) (qRet (qFrz (qLamSort tabP ((("_law_parts" : PySem.Str) ++ ".<locals>.") ++ "<lambda>") 328 29 N__law_parts_lam [] (qVar 1) (qTup (qCons (qCB bLen (qCons (qVar 0) qNil)) (qCons (qVar 0) qNil))))))))
theorem d__law_parts {k : Nat} (T : Txt mg) {cod : Addr} (TB : LamX.TabB base mg cod tabP) {f : Addr} {A : Around} {outer : List Env} {s : Shared} {H : Hp} {E : XK} (hr : Room (k + 3) (A.deeper (envOfC "_law_parts" (defScope s__law_parts) s.heap.objs.size f (.ref cod)))) :
    PSs (cxD P w K mg base N__law_parts "_law_parts" (defScope s__law_parts) f (.ref cod) A outer s H E) (defBody s__law_parts) (lowS (cxD P w K mg base N__law_parts "_law_parts" (defScope s__law_parts) f (.ref cod) A outer s H E) (t__law_parts tabP)) :=
  (qss_cons (qs_set (i := 1) S__law_parts.nd rfl (by first | exact Or.inl rfl | exact Or.inr rfl) (q_lstF (qa_cons (q_lstF qa_nil) qa_nil))) (qss_cons (qs_for PassesOwn.never rfl (qi_rng1 rfl T.n_range (qa_cons (qv 0) qa_nil)) (qg_name (i := 2) S__law_parts.nd rfl (by first | exact Or.inl rfl | exact Or.inr rfl)) (qss_one (qs_set (i := 1) S__law_parts.nd rfl (by first | exact Or.inl rfl | exact Or.inr rfl) (q_frz (q_op o_add (qv 1) (q_frz (q_lc (own := [("one", 3)]) rfl S__law_parts.nd (qi_lst (qv 1)) (blkOk_by rfl) (fun _ _ _ _ _ => (qgw_name (i := 3) (by decide) S__law_parts.nd rfl (by first | exact Or.inl rfl | exact Or.inr rfl))) (fun _ _ _ _ _ => qts_nil) (fun _ _ _ _ _ => (q_frz (q_op o_add (qv 3) (q_lstF (qa_cons (qv 2) qa_nil)))))))))))) (qss_one (qs_ret (q_frz (q_sortLam (k := k) (N := N__law_parts_lam) (ps := ["one"]) (fr := []) (js := []) TB rfl (by show ∀ y : PySem.Str × NameKind, y ∈ _ → y.2 = NameKind.free → (defScope s__law_parts).names.lookup y.1 = some .cell ∨ (defScope s__law_parts).names.lookup y.1 = some .free; decide +kernel) rfl (NdefX.nscope_by (by decide +kernel)) rfl (fun q cl pm cv ctv us hl => match us, hl with | [_], _ => rfl) (by simp) rfl hr rfl rfl T.n_sorted (qv 1) (fun F f A outer s H E e1 e2 hr => by obtain ⟨_, _, _, _, _, _⟩ := F; cases e1; exact (q_tup (qa_cons (q_callB b_len rfl T.n_len boot_len (qa_cons (qv 0) qa_nil)) (qa_cons (qv 0) qa_nil)))) rfl rfl rfl))))))
/-! ### _law_changed -/
abbrev s__law_changed : Stmt := top 68
abbrev N__law_changed : List PySem.Str := ["facts", "change", "fact"]
theorem S__law_changed : FnScope N__law_changed ["facts", "change"] (defScope s__law_changed) := ⟨rfl, rfl, rfl, by decide +kernel, rfl, by decide +kernel, by decide +kernel⟩
def t__law_changed : QS := (qRet (qFrz (qOp aAdd (qFrz (qLc [2] (iLst (qVar 0)) (gtName 2) (qTB (qOp cNotIn (qVar 2) (qVar 1))) (qVar 2))) (qFrz (qLc [2] (iLst (qVar 1)) (gtName 2) (qTB (qOp cNotIn (qVar 2) (qVar 0))) (qVar 2))))))
theorem d__law_changed {k : Nat} (T : Txt mg) {f : Addr} {cdv : Value} {A : Around} {outer : List Env} {s : Shared} {H : Hp} {E : XK} (hr : Room k (A.deeper (envOfC "_law_changed" (defScope s__law_changed) s.heap.objs.size f cdv))) :
    PSs (cxD P w K mg base N__law_changed "_law_changed" (defScope s__law_changed) f cdv A outer s H E) (defBody s__law_changed) (lowS (cxD P w K mg base N__law_changed "_law_changed" (defScope s__law_changed) f cdv A outer s H E) (t__law_changed)) :=
  (qss_one (qs_ret (q_frz (q_op o_add (q_frz (q_lc (own := [("fact", 2)]) rfl S__law_changed.nd (qi_lst (qv 0)) (blkOk_by rfl) (fun _ _ _ _ _ => (qgw_name (i := 2) (by decide) S__law_changed.nd rfl (by first | exact Or.inl rfl | exact Or.inr rfl))) (fun _ _ _ _ _ => (qts_one (q_tcmp (o_notIn (u65 hr)) (qv 2) (qv 1)))) (fun _ _ _ _ _ => (qv 2)))) (q_frz (q_lc (own := [("fact", 2)]) rfl S__law_changed.nd (qi_lst (qv 1)) (blkOk_by rfl) (fun _ _ _ _ _ => (qgw_name (i := 2) (by decide) S__law_changed.nd rfl (by first | exact Or.inl rfl | exact Or.inr rfl))) (fun _ _ _ _ _ => (qts_one (q_tcmp (o_notIn (u65 hr)) (qv 2) (qv 0)))) (fun _ _ _ _ _ => (qv 2))))))))
/-! ### _law_due -/
abbrev s__law_due : Stmt := top 69
abbrev N__law_due : List PySem.Str := ["stands", "may", "wish", "places", "place"]
theorem S__law_due : FnScope N__law_due ["stands", "may", "wish"] (defScope s__law_due) := ⟨rfl, rfl, rfl, by decide +kernel, rfl, by decide +kernel, by decide +kernel⟩
def t__law_due (sp__law_parts : TSp) : QS := (qSeq (qFor (iLst (qCall sp__law_parts [] (qCons (qCB bLen (qCons (qVar 1) qNil)) qNil))) (gtName 3) (qIfS (qTB (qOp cEq (qOp aIx (qVar 0) (qCB bTup (qCons (qVar 3) qNil))) (qVar 2))) (qRet (qFrz (qLc [4] (iLst (qVar 3)) (gtName 4) qYes (qOp aIx (qVar 1) (qVar 4))))) qNext)) (qRet (qC .non)))
theorem d__law_due {k : Nat} (T : Txt mg) {sp__law_parts : TSp} {k__law_parts : Nat} (C__law_parts : Cal P w K mg base k__law_parts "_law_parts" ["many"] [] sp__law_parts) (h__law_parts : k__law_parts + 2 ≤ k) {f : Addr} {cdv : Value} {A : Around} {outer : List Env} {s : Shared} {H : Hp} {E : XK} (hr : Room k (A.deeper (envOfC "_law_due" (defScope s__law_due) s.heap.objs.size f cdv))) :
    PSs (cxD P w K mg base N__law_due "_law_due" (defScope s__law_due) f cdv A outer s H E) (defBody s__law_due) (lowS (cxD P w K mg base N__law_due "_law_due" (defScope s__law_due) f cdv A outer s H E) (t__law_due sp__law_parts)) :=
  (qss_cons (qs_for PassesOwn.never rfl (qi_lst (q_callC C__law_parts hr (by omega) rfl (qa_cons (q_callB b_len rfl T.n_len boot_len (qa_cons (qv 1) qa_nil)) qa_nil))) (qg_name (i := 3) S__law_due.nd rfl (by first | exact Or.inl rfl | exact Or.inr rfl)) (qss_one (qs_if (q_tcmp (o_eq (u64 hr)) (q_ix (u9 hr) (qv 0) (q_callTy b_tup rfl T.n_tuple boot_tuple (qa_cons (qv 3) qa_nil))) (qv 2)) (qss_one (qs_ret (q_frz (q_lc (own := [("place", 4)]) rfl S__law_due.nd (qi_lst (qv 3)) (blkOk_by rfl) (fun _ _ _ _ _ => (qgw_name (i := 4) (by decide) S__law_due.nd rfl (by first | exact Or.inl rfl | exact Or.inr rfl))) (fun _ _ _ _ _ => qts_nil) (fun _ _ _ _ _ => (q_ix (u9 hr) (qv 1) (qv 4))))))) qss_nil))) (qss_one (qs_ret q_non)))
/-! ### _law_same -/
abbrev s__law_same : Stmt := top 70
abbrev N__law_same : List PySem.Str := ["found", "due", "fact"]
theorem S__law_same : FnScope N__law_same ["found", "due"] (defScope s__law_same) := ⟨rfl, rfl, rfl, by decide +kernel, rfl, by decide +kernel, by decide +kernel⟩
def t__law_same : QS := (qSeq (qIfS (qTB (qOp cIsN (qVar 1) (qC .non))) (qRet (qOp cIsN (qVar 0) (qC .non))) qNext) (qRet (qAndV (qCB (bIsi "list" isLst) (qCons (qVar 0) (qCons (qC (.ty "list")) qNil))) (qAndV (qOp cEq (qVar 0) (qVar 1)) (qCB bAll (qCons (qFrz (qLc [2] (iLst (qVar 0)) (gtName 2) qYes (qCB (bIsi "tuple" isTup) (qCons (qVar 2) (qCons (qC (.ty "tuple")) qNil))))) qNil))))))
theorem d__law_same {k : Nat} (T : Txt mg) {f : Addr} {cdv : Value} {A : Around} {outer : List Env} {s : Shared} {H : Hp} {E : XK} (hr : Room k (A.deeper (envOfC "_law_same" (defScope s__law_same) s.heap.objs.size f cdv))) :
    PSs (cxD P w K mg base N__law_same "_law_same" (defScope s__law_same) f cdv A outer s H E) (defBody s__law_same) (lowS (cxD P w K mg base N__law_same "_law_same" (defScope s__law_same) f cdv A outer s H E) (t__law_same)) :=
  (qss_cons (qs_if (q_tcmp o_isN (qv 1) q_non) (qss_one (qs_ret (q_cmp o_isN (qv 0) q_non))) qss_nil) (qss_one (qs_ret (q_andV (q_callB b_isLst rfl T.n_isinstance boot_isinstance (qa_cons (qv 0) (qa_cons (q_ty rfl T.n_list boot_list) qa_nil))) (q_andV (q_cmp (o_eq (u64 hr)) (qv 0) (qv 1)) (q_one (q_callB (b_all rfl) rfl T.n_all boot_all (qa_cons (q_frz (q_lc (own := [("fact", 2)]) rfl S__law_same.nd (qi_lst (qv 0)) (blkOk_by rfl) (fun _ _ _ _ _ => (qgw_name (i := 2) (by decide) S__law_same.nd rfl (by first | exact Or.inl rfl | exact Or.inr rfl))) (fun _ _ _ _ _ => qts_nil) (fun _ _ _ _ _ => (q_callB b_isTup rfl T.n_isinstance boot_isinstance (qa_cons (qv 2) (qa_cons (q_ty rfl T.n_tuple boot_tuple) qa_nil)))))) qa_nil))))))))
/-! ### _law_asked -/
abbrev s__law_asked : Stmt := top 71
abbrev N__law_asked : List PySem.Str := ["rules", "facts", "goal", "may", "wish"]
theorem S__law_asked : FnScope N__law_asked ["rules", "facts", "goal", "may", "wish"] (defScope s__law_asked) := ⟨rfl, rfl, rfl, by decide +kernel, rfl, by decide +kernel, by decide +kernel⟩
def t__law_asked (sp_mend : TSp) : QS := (qSeq (qIfS (qTB (qVar 4)) (qRet (qCall sp_mend [.bl true] (qCons (qVar 0) (qCons (qVar 1) (qCons (qVar 2) (qCons (qVar 3) qNil)))))) qNext) (qRet (qCall sp_mend [] (qCons (qVar 0) (qCons (qVar 1) (qCons (qVar 2) (qCons (qVar 3) (qCons (qVar 4) qNil))))))))
theorem d__law_asked {k : Nat} (T : Txt mg) {sp_mend : TSp} {k_mend : Nat} (C_mend : Cal P w K mg base k_mend "mend" ["rules", "facts", "goal", "may", "wish"] [] sp_mend) (C_mend_d : Cal P w K mg base k_mend "mend" ["rules", "facts", "goal", "may", "wish"] [.bl true] sp_mend) (h_mend : k_mend + 2 ≤ k) {f : Addr} {cdv : Value} {A : Around} {outer : List Env} {s : Shared} {H : Hp} {E : XK} (hr : Room k (A.deeper (envOfC "_law_asked" (defScope s__law_asked) s.heap.objs.size f cdv))) :
    PSs (cxD P w K mg base N__law_asked "_law_asked" (defScope s__law_asked) f cdv A outer s H E) (defBody s__law_asked) (lowS (cxD P w K mg base N__law_asked "_law_asked" (defScope s__law_asked) f cdv A outer s H E) (t__law_asked sp_mend)) :=
  (qss_cons (qs_if (q_tval (qv 4)) (qss_one (qs_ret (q_callC C_mend_d hr (by omega) rfl (qa_cons (qv 0) (qa_cons (qv 1) (qa_cons (qv 2) (qa_cons (qv 3) qa_nil))))))) qss_nil) (qss_one (qs_ret (q_callC C_mend hr (by omega) rfl (qa_cons (qv 0) (qa_cons (qv 1) (qa_cons (qv 2) (qa_cons (qv 3) (qa_cons (qv 4) qa_nil)))))))))
/-! ### _law_right -/
abbrev s__law_right : Stmt := top 72
abbrev N__law_right : List PySem.Str := ["rules", "facts", "goal", "may", "wish", "due", "handed", "turn", "found"]
theorem S__law_right : FnScope N__law_right ["rules", "facts", "goal", "may", "wish", "due"] (defScope s__law_right) := ⟨rfl, rfl, rfl, by decide +kernel, rfl, by decide +kernel, by decide +kernel⟩
def t__law_right (sp__law_asked : TSp) (sp__law_same : TSp) : QS := (qSeq (qAsg (qLstF (qCons (qFrz (qCB bList (qCons (qVar 0) qNil))) (qCons (qFrz (qCB bList (qCons (qVar 1) qNil))) (qCons (qFrz (qCB bList (qCons (qVar 3) qNil))) qNil)))) (gtName 6)) (qSeq (qFor (iRng1 (qCons (qC (.int 2)) qNil)) (gtName 7) (qSeq (qAsg (qCall sp__law_asked [] (qCons (qOp aIx (qVar 6) (qC (.int 0))) (qCons (qOp aIx (qVar 6) (qC (.int 1))) (qCons (qVar 2) (qCons (qOp aIx (qVar 6) (qC (.int 2))) (qCons (qVar 4) qNil)))))) (gtName 8)) (qSeq (qIfS (qOr (qNot (qTB (qCall sp__law_same [] (qCons (qVar 8) (qCons (qVar 5) qNil))))) (qTB (qOp cNe (qVar 6) (qLstF (qCons (qVar 0) (qCons (qVar 1) (qCons (qVar 3) qNil))))))) (qRet (qC (.bl false))) qNext) (qIfS (qTB (qOp cNotN (qVar 8) (qC .non))) (qDrop (qBM "list" mAppend (qVar 8) (qCons (qVar 2) qNil))) qNext)))) (qRet (qC (.bl true)))))
theorem d__law_right {k : Nat} (T : Txt mg) {sp__law_asked : TSp} {k__law_asked : Nat} (C__law_asked : Cal P w K mg base k__law_asked "_law_asked" ["rules", "facts", "goal", "may", "wish"] [] sp__law_asked) {sp__law_same : TSp} {k__law_same : Nat} (C__law_same : Cal P w K mg base k__law_same "_law_same" ["found", "due"] [] sp__law_same) (h__law_asked : k__law_asked + 2 ≤ k) (h__law_same : k__law_same + 2 ≤ k) {f : Addr} {cdv : Value} {A : Around} {outer : List Env} {s : Shared} {H : Hp} {E : XK} (hr : Room k (A.deeper (envOfC "_law_right" (defScope s__law_right) s.heap.objs.size f cdv))) :
    PSs (cxD P w K mg base N__law_right "_law_right" (defScope s__law_right) f cdv A outer s H E) (defBody s__law_right) (lowS (cxD P w K mg base N__law_right "_law_right" (defScope s__law_right) f cdv A outer s H E) (t__law_right sp__law_asked sp__law_same)) :=
  (qss_cons (qs_set (i := 6) S__law_right.nd rfl (by first | exact Or.inl rfl | exact Or.inr rfl) (q_lstF (qa_cons (q_frz (q_callTy (b_list rfl) rfl T.n_list boot_list (qa_cons (qv 0) qa_nil))) (qa_cons (q_frz (q_callTy (b_list rfl) rfl T.n_list boot_list (qa_cons (qv 1) qa_nil))) (qa_cons (q_frz (q_callTy (b_list rfl) rfl T.n_list boot_list (qa_cons (qv 3) qa_nil))) qa_nil))))) (qss_cons (qs_for PassesOwn.never rfl (qi_rng1 rfl T.n_range (qa_cons q_int qa_nil)) (qg_name (i := 7) S__law_right.nd rfl (by first | exact Or.inl rfl | exact Or.inr rfl)) (qss_cons (qs_set (i := 8) S__law_right.nd rfl (by first | exact Or.inl rfl | exact Or.inr rfl) (q_callC C__law_asked hr (by omega) rfl (qa_cons (q_ix (u9 hr) (qv 6) q_int) (qa_cons (q_ix (u9 hr) (qv 6) q_int) (qa_cons (qv 2) (qa_cons (q_ix (u9 hr) (qv 6) q_int) (qa_cons (qv 4) qa_nil))))))) (qss_cons (qs_if (PW.pt (q_or (q_not (q_tval (q_callC C__law_same hr (by omega) rfl (qa_cons (qv 8) (qa_cons (qv 5) qa_nil))))) (q_or1 (q_tcmp (o_ne (u64 hr)) (qv 6) (q_lstF (qa_cons (qv 0) (qa_cons (qv 1) (qa_cons (qv 3) qa_nil)))))))) (qss_one (qs_ret q_bl)) qss_nil) (qss_one (qs_if (q_tcmp o_notN (qv 8) q_non) (qss_one (qs_expr (q_bm F.plainAttrs_list F.slot_list_append F.type_list_append l_append (qv 8) (qa_cons (qv 2) qa_nil)))) qss_nil))))) (qss_one (qs_ret q_bl))))
/-! ### _law_eight -/
abbrev s__law_eight : Stmt := top 73
abbrev N__law_eight : List PySem.Str := ["words", "constants", "some"]
theorem S__law_eight : FnScope N__law_eight ["words", "constants"] (defScope s__law_eight) := ⟨rfl, rfl, rfl, by decide +kernel, rfl, by decide +kernel, by decide +kernel⟩
def t__law_eight : QS := (qSeq (qAsg (qLstF (qCons (qTup (qCons (qOp aIx (qVar 0) (qC (.int 0))) qNil)) (qCons (qTup (qCons (qOp aIx (qVar 0) (qC (.int 0))) (qCons (qOp aIx (qVar 1) (qC (.int 0))) qNil))) (qCons (qTup (qCons (qOp aIx (qVar 0) (qC (.int 1))) (qCons (qOp aIx (qVar 1) (qC (.int 0))) (qCons (qOp aIx (qVar 1) (qC (.int 1))) qNil)))) (qCons (qTup (qCons (qOp aIx (qVar 0) (qC (.int 1))) qNil)) qNil))))) (gtName 2)) (qRet (qFrz (qOp aAdd (qVar 2) (qLstF (qCons (qTup (qCons (qOp aIx (qVar 0) (qC (.int 2))) (qCons (qOp aIx (qVar 1) (qC (.int 2))) qNil))) (qCons (qTup (qCons (qOp aIx (qVar 0) (qC (.int 2))) (qCons (qOp aIx (qVar 1) (qC (.int 0))) qNil))) (qCons (qTup (qCons (qOp aIx (qVar 0) (qC (.int 3))) qNil)) (qCons (qTup (qCons (qOp aIx (qVar 0) (qC (.int 0))) (qCons (qOp aIx (qVar 1) (qC (.int 1))) qNil))) qNil)))))))))
theorem d__law_eight {k : Nat} (T : Txt mg) {f : Addr} {cdv : Value} {A : Around} {outer : List Env} {s : Shared} {H : Hp} {E : XK} (hr : Room k (A.deeper (envOfC "_law_eight" (defScope s__law_eight) s.heap.objs.size f cdv))) :
    PSs (cxD P w K mg base N__law_eight "_law_eight" (defScope s__law_eight) f cdv A outer s H E) (defBody s__law_eight) (lowS (cxD P w K mg base N__law_eight "_law_eight" (defScope s__law_eight) f cdv A outer s H E) (t__law_eight)) :=
  (qss_cons (qs_set (i := 2) S__law_eight.nd rfl (by first | exact Or.inl rfl | exact Or.inr rfl) (q_lstF (qa_cons (q_tup (qa_cons (q_ix (u9 hr) (qv 0) q_int) qa_nil)) (qa_cons (q_tup (qa_cons (q_ix (u9 hr) (qv 0) q_int) (qa_cons (q_ix (u9 hr) (qv 1) q_int) qa_nil))) (qa_cons (q_tup (qa_cons (q_ix (u9 hr) (qv 0) q_int) (qa_cons (q_ix (u9 hr) (qv 1) q_int) (qa_cons (q_ix (u9 hr) (qv 1) q_int) qa_nil)))) (qa_cons (q_tup (qa_cons (q_ix (u9 hr) (qv 0) q_int) qa_nil)) qa_nil)))))) (qss_one (qs_ret (q_frz (q_op o_add (qv 2) (q_lstF (qa_cons (q_tup (qa_cons (q_ix (u9 hr) (qv 0) q_int) (qa_cons (q_ix (u9 hr) (qv 1) q_int) qa_nil))) (qa_cons (q_tup (qa_cons (q_ix (u9 hr) (qv 0) q_int) (qa_cons (q_ix (u9 hr) (qv 1) q_int) qa_nil))) (qa_cons (q_tup (qa_cons (q_ix (u9 hr) (qv 0) q_int) qa_nil)) (qa_cons (q_tup (qa_cons (q_ix (u9 hr) (qv 0) q_int) (qa_cons (q_ix (u9 hr) (qv 1) q_int) qa_nil))) qa_nil))))))))))
/-! ### _law_mixed_up -/
abbrev s__law_mixed_up : Stmt := top 74
abbrev N__law_mixed_up : List PySem.Str := ["left", "facts", "found", "fact"]
theorem S__law_mixed_up : FnScope N__law_mixed_up ["left", "facts"] (defScope s__law_mixed_up) := ⟨rfl, rfl, rfl, by decide +kernel, rfl, by decide +kernel, by decide +kernel⟩
def t__law_mixed_up (sp__law_pick : TSp) : QS := (qSeq (qAsg (qLst qNil) (gtName 2)) (qSeq (qFor (iLst (qVar 1)) (gtName 3) (qDrop (qBM "list" mInsert (qVar 2) (qCons (qCall sp__law_pick [] (qCons (qVar 0) (qCons (qOp aAdd (qCB bLen (qCons (qVar 2) qNil)) (qC (.int 1))) qNil))) (qCons (qVar 3) qNil))))) (qRet (qVar 2))))
theorem d__law_mixed_up {k : Nat} (T : Txt mg) {sp__law_pick : TSp} {k__law_pick : Nat} (C__law_pick : Cal P w K mg base k__law_pick "_law_pick" ["left", "many"] [] sp__law_pick) (h__law_pick : k__law_pick + 2 ≤ k) {f : Addr} {cdv : Value} {A : Around} {outer : List Env} {s : Shared} {H : Hp} {E : XK} (hr : Room k (A.deeper (envOfC "_law_mixed_up" (defScope s__law_mixed_up) s.heap.objs.size f cdv))) :
    PSs (cxD P w K mg base N__law_mixed_up "_law_mixed_up" (defScope s__law_mixed_up) f cdv A outer s H E) (defBody s__law_mixed_up) (lowS (cxD P w K mg base N__law_mixed_up "_law_mixed_up" (defScope s__law_mixed_up) f cdv A outer s H E) (t__law_mixed_up sp__law_pick)) :=
  (qss_cons (qs_set (i := 2) S__law_mixed_up.nd rfl (by first | exact Or.inl rfl | exact Or.inr rfl) (q_lst qa_nil)) (qss_cons (qs_for PassesOwn.never rfl (qi_lst (qv 1)) (qg_name (i := 3) S__law_mixed_up.nd rfl (by first | exact Or.inl rfl | exact Or.inr rfl)) (qss_one (qs_expr (q_bm F.plainAttrs_list F.slot_list_insert F.type_list_insert l_insert (qv 2) (qa_cons (q_callC C__law_pick hr (by omega) rfl (qa_cons (qv 0) (qa_cons (q_op o_add (q_callB b_len rfl T.n_len boot_len (qa_cons (qv 2) qa_nil)) q_int) qa_nil))) (qa_cons (qv 3) qa_nil)))))) (qss_one (qs_ret (qv 2)))))
/-! ### _law_some_rules -/
abbrev s__law_some_rules : Stmt := top 75
abbrev N__law_some_rules : List PySem.Str := ["left", "facts", "goal", "rules", "k", "body", "j", "word"]
theorem S__law_some_rules : FnScope N__law_some_rules ["left", "facts", "goal"] (defScope s__law_some_rules) := ⟨rfl, rfl, rfl, by decide +kernel, rfl, by decide +kernel, by decide +kernel⟩
def t__law_some_rules (sp__law_pick : TSp) : QS := (qSeq (qAsg (qLst qNil) (gtName 3)) (qSeq (qFor (iRng1 (qCons (qOp aIx (qLstF (qCons (qC (.int 1)) (qCons (qC (.int 2)) (qCons (qC (.int 3)) (qCons (qC (.int 1)) (qCons (qC (.int 2)) (qCons (qC (.int 3)) (qCons (qC (.int 2)) (qCons (qC (.int 8)) qNil))))))))) (qCall sp__law_pick [] (qCons (qVar 0) (qCons (qC (.int 8)) qNil)))) qNil)) (gtName 4) (qSeq (qAsg (qLst qNil) (gtName 5)) (qSeq (qFor (iRng1 (qCons (qOp aIx (qLstF (qCons (qC (.int 1)) (qCons (qC (.int 2)) (qCons (qC (.int 2)) (qCons (qC (.int 3)) (qCons (qC (.int 3)) (qCons (qC (.int 4)) (qCons (qC (.int 5)) (qCons (qC (.int 6)) qNil))))))))) (qCall sp__law_pick [] (qCons (qVar 0) (qCons (qC (.int 8)) qNil)))) qNil)) (gtName 6) (qSeq (qAsg (qOp aIx (qLstF (qCons (qC (.str "is")) (qCons (qC (.str "is")) (qCons (qC (.str "not")) qNil)))) (qCall sp__law_pick [] (qCons (qVar 0) (qCons (qC (.int 3)) qNil)))) (gtName 7)) (qDrop (qBM "list" mAppend (qVar 5) (qCons (qTup (qCons (qVar 7) (qCons (qOp aIx (qVar 1) (qCall sp__law_pick [] (qCons (qVar 0) (qCons (qCB bLen (qCons (qVar 1) qNil)) qNil)))) qNil))) qNil))))) (qDrop (qBM "list" mAppend (qVar 3) (qCons (qTup (qCons (qVar 2) (qCons (qC .non) (qCons (qCB bTup (qCons (qVar 5) qNil)) qNil)))) qNil)))))) (qRet (qFrz (qVar 3)))))
theorem d__law_some_rules {k : Nat} (T : Txt mg) {sp__law_pick : TSp} {k__law_pick : Nat} (C__law_pick : Cal P w K mg base k__law_pick "_law_pick" ["left", "many"] [] sp__law_pick) (h__law_pick : k__law_pick + 2 ≤ k) {f : Addr} {cdv : Value} {A : Around} {outer : List Env} {s : Shared} {H : Hp} {E : XK} (hr : Room k (A.deeper (envOfC "_law_some_rules" (defScope s__law_some_rules) s.heap.objs.size f cdv))) :
    PSs (cxD P w K mg base N__law_some_rules "_law_some_rules" (defScope s__law_some_rules) f cdv A outer s H E) (defBody s__law_some_rules) (lowS (cxD P w K mg base N__law_some_rules "_law_some_rules" (defScope s__law_some_rules) f cdv A outer s H E) (t__law_some_rules sp__law_pick)) :=
  (qss_cons (qs_set (i := 3) S__law_some_rules.nd rfl (by first | exact Or.inl rfl | exact Or.inr rfl) (q_lst qa_nil)) (qss_cons (qs_for PassesOwn.never rfl (qi_rng1 rfl T.n_range (qa_cons (q_ix (u9 hr) (q_lstF (qa_cons q_int (qa_cons q_int (qa_cons q_int (qa_cons q_int (qa_cons q_int (qa_cons q_int (qa_cons q_int (qa_cons q_int qa_nil))))))))) (q_callC C__law_pick hr (by omega) rfl (qa_cons (qv 0) (qa_cons q_int qa_nil)))) qa_nil)) (qg_name (i := 4) S__law_some_rules.nd rfl (by first | exact Or.inl rfl | exact Or.inr rfl)) (qss_cons (qs_set (i := 5) S__law_some_rules.nd rfl (by first | exact Or.inl rfl | exact Or.inr rfl) (q_lst qa_nil)) (qss_cons (qs_for PassesOwn.never rfl (qi_rng1 rfl T.n_range (qa_cons (q_ix (u9 hr) (q_lstF (qa_cons q_int (qa_cons q_int (qa_cons q_int (qa_cons q_int (qa_cons q_int (qa_cons q_int (qa_cons q_int (qa_cons q_int qa_nil))))))))) (q_callC C__law_pick hr (by omega) rfl (qa_cons (qv 0) (qa_cons q_int qa_nil)))) qa_nil)) (qg_name (i := 6) S__law_some_rules.nd rfl (by first | exact Or.inl rfl | exact Or.inr rfl)) (qss_cons (qs_set (i := 7) S__law_some_rules.nd rfl (by first | exact Or.inl rfl | exact Or.inr rfl) (q_ix (u9 hr) (q_lstF (qa_cons q_str (qa_cons q_str (qa_cons q_str qa_nil)))) (q_callC C__law_pick hr (by omega) rfl (qa_cons (qv 0) (qa_cons q_int qa_nil))))) (qss_one (qs_expr (q_bm F.plainAttrs_list F.slot_list_append F.type_list_append l_append (qv 5) (qa_cons (q_tup (qa_cons (qv 7) (qa_cons (q_ix (u9 hr) (qv 1) (q_callC C__law_pick hr (by omega) rfl (qa_cons (qv 0) (qa_cons (q_callB b_len rfl T.n_len boot_len (qa_cons (qv 1) qa_nil)) qa_nil)))) qa_nil))) qa_nil)))))) (qss_one (qs_expr (q_bm F.plainAttrs_list F.slot_list_append F.type_list_append l_append (qv 3) (qa_cons (q_tup (qa_cons (qv 2) (qa_cons q_non (qa_cons (q_callTy b_tup rfl T.n_tuple boot_tuple (qa_cons (qv 5) qa_nil)) qa_nil)))) qa_nil))))))) (qss_one (qs_ret (q_frz (qv 3))))))
/-! ### _law_stands -/
abbrev s__law_stands : Stmt := top 76
abbrev N__law_stands : List PySem.Str := ["rules", "facts", "goal", "rule", "part"]
theorem S__law_stands : FnScope N__law_stands ["rules", "facts", "goal"] (defScope s__law_stands) := ⟨rfl, rfl, rfl, by decide +kernel, rfl, by decide +kernel, by decide +kernel⟩
def t__law_stands : QS := (qSeq (qIfS (qTB (qOp cIn (qVar 2) (qVar 1))) (qRet (qC (.bl true))) qNext) (qSeq (qFor (iLst (qVar 0)) (gtName 3) (qIfS (qTB (qCB bAll (qCons (qFrz (qLc [4] (iTp (qOp aIx (qVar 3) (qC (.int 2)))) (gtName 4) qYes (qOp cEq (qOp cIn (qOp aIx (qVar 4) (qC (.int 1))) (qVar 1)) (qOp cEq (qOp aIx (qVar 4) (qC (.int 0))) (qC (.str "is")))))) qNil))) (qRet (qC (.bl true))) qNext)) (qRet (qC (.bl false)))))
theorem d__law_stands {k : Nat} (T : Txt mg) {f : Addr} {cdv : Value} {A : Around} {outer : List Env} {s : Shared} {H : Hp} {E : XK} (hr : Room k (A.deeper (envOfC "_law_stands" (defScope s__law_stands) s.heap.objs.size f cdv))) :
    PSs (cxD P w K mg base N__law_stands "_law_stands" (defScope s__law_stands) f cdv A outer s H E) (defBody s__law_stands) (lowS (cxD P w K mg base N__law_stands "_law_stands" (defScope s__law_stands) f cdv A outer s H E) (t__law_stands)) :=
  (qss_cons (qs_if (q_tcmp (o_in (u65 hr)) (qv 2) (qv 1)) (qss_one (qs_ret q_bl)) qss_nil) (qss_cons (qs_for PassesOwn.never rfl (qi_lst (qv 0)) (qg_name (i := 3) S__law_stands.nd rfl (by first | exact Or.inl rfl | exact Or.inr rfl)) (qss_one (qs_if (q_tval (q_callB (b_all rfl) rfl T.n_all boot_all (qa_cons (q_frz (q_lc (own := [("part", 4)]) rfl S__law_stands.nd (qi_tup (q_ix (u9 hr) (qv 3) q_int)) (blkOk_by rfl) (fun _ _ _ _ _ => (qgw_name (i := 4) (by decide) S__law_stands.nd rfl (by first | exact Or.inl rfl | exact Or.inr rfl))) (fun _ _ _ _ _ => qts_nil) (fun _ _ _ _ _ => (q_cmp (o_eq (u64 hr)) (q_cmp (o_in (u65 hr)) (q_ix (u9 hr) (qv 4) q_int) (qv 1)) (q_cmp (o_eq (u64 hr)) (q_ix (u9 hr) (qv 4) q_int) q_str))))) qa_nil))) (qss_one (qs_ret q_bl)) qss_nil))) (qss_one (qs_ret q_bl))))
/-! ### law -/
abbrev s_law : Stmt := top 77
abbrev N_law : List PySem.Str := ["script", "words", "every", "left", "may", "goal", "rules", "facts", "stands", "places", "wish", "fact", "place"]
theorem S_law : FnScope N_law ["script"] (defScope s_law) := ⟨rfl, rfl, rfl, by decide +kernel, rfl, by decide +kernel, by decide +kernel⟩
def t_law (sp__law_words : TSp) (sp__law_left : TSp) (sp__law_eight : TSp) (sp__law_constants : TSp) (sp__law_mixed_up : TSp) (sp__law_pick : TSp) (sp__law_some_rules : TSp) (sp__law_parts : TSp) (sp__law_stands : TSp) (sp__law_changed : TSp) (sp__law_right : TSp) (sp__law_due : TSp) : QS := (qSeq (qAsg (qCall sp__law_words [] (qCons (qCall sp__law_left [] (qCons (qVar 0) (qCons (qC (.int 1)) qNil))) qNil)) (gtName 1)) (qSeq (qAsg (qCall sp__law_eight [] (qCons (qVar 1) (qCons (qCall sp__law_constants [] (qCons (qCall sp__law_left [] (qCons (qVar 0) (qCons (qC (.int 2)) qNil))) (qCons (qVar 1) qNil))) qNil))) (gtName 2)) (qSeq (qAsg (qCall sp__law_left [] (qCons (qVar 0) (qCons (qC (.int 3)) qNil))) (gtName 3)) (qSeq (qAsg (qSl (qCall sp__law_mixed_up [] (qCons (qVar 3) (qCons (qVar 2) qNil))) qNoPart (qPart (qOp aAdd (qC (.int 3)) (qCall sp__law_pick [] (qCons (qVar 3) (qCons (qC (.int 6)) qNil)))))) (gtName 4)) (qSeq (qAsg (qTup (qCons (qOp aIx (qVar 1) (qC (.int 5))) (qCons (qC (.int 1)) qNil))) (gtName 5)) (qSeq (qAsg (qCall sp__law_some_rules [] (qCons (qCall sp__law_left [] (qCons (qVar 0) (qCons (qC (.int 4)) qNil))) (qCons (qVar 2) (qCons (qVar 5) qNil)))) (gtName 6)) (qSeq (qAsg (qCall sp__law_left [] (qCons (qVar 0) (qCons (qC (.int 5)) qNil))) (gtName 3)) (qSeq (qAsg (qFrz (qLc [11] (iLst (qVar 2)) (gtName 11) (qTB (qOp cEq (qCall sp__law_pick [] (qCons (qVar 3) (qCons (qC (.int 2)) qNil))) (qC (.int 1)))) (qVar 11))) (gtName 7)) (qSeq (qIfS (qTB (qOp cEq (qCall sp__law_pick [] (qCons (qVar 3) (qCons (qC (.int 6)) qNil))) (qC (.int 0)))) (qAsg (qFrz (qOp aAdd (qVar 7) (qLstF (qCons (qVar 5) (qCons (qVar 5) qNil))))) (gtName 7)) qNext) (qSeq (qIfS (qTB (qOp cEq (qCall sp__law_pick [] (qCons (qVar 3) (qCons (qC (.int 4)) qNil))) (qC (.int 0)))) (qAsg (qVar 5) (gtSub (qVar 4) (qCall sp__law_pick [] (qCons (qVar 3) (qCons (qCB bLen (qCons (qVar 4) qNil)) qNil))))) qNext) (qFz 4 (qSeq (qAsg qDict0 (gtName 8)) (qSeq (qFor (iLst (qCall sp__law_parts [] (qCons (qCB bLen (qCons (qVar 4) qNil)) qNil))) (gtName 9) (qAsg (qCall sp__law_stands [] (qCons (qVar 6) (qCons (qCall sp__law_changed [] (qCons (qVar 7) (qCons (qFrz (qLc [12] (iLst (qVar 9)) (gtName 12) qYes (qOp aIx (qVar 4) (qVar 12)))) qNil))) (qCons (qVar 5) qNil)))) (gtSub (qVar 8) (qCB bTup (qCons (qVar 9) qNil))))) (qSeq (qFor (iTp (qTup (qCons (qC (.bl true)) (qCons (qC (.bl false)) qNil)))) (gtName 10) (qIfS (qNot (qTB (qCall sp__law_right [] (qCons (qVar 6) (qCons (qVar 7) (qCons (qVar 5) (qCons (qVar 4) (qCons (qVar 10) (qCons (qCall sp__law_due [] (qCons (qVar 8) (qCons (qVar 4) (qCons (qVar 10) qNil)))) qNil))))))))) (qRet (qC (.bl false))) qNext)) (qRet (qC (.bl true)))))))))))))))))
theorem d_law {k : Nat} (T : Txt mg) {sp__law_words : TSp} {k__law_words : Nat} (C__law_words : Cal P w K mg base k__law_words "_law_words" ["left"] [] sp__law_words) {sp__law_left : TSp} {k__law_left : Nat} (C__law_left : Cal P w K mg base k__law_left "_law_left" ["script", "k"] [] sp__law_left) {sp__law_eight : TSp} {k__law_eight : Nat} (C__law_eight : Cal P w K mg base k__law_eight "_law_eight" ["words", "constants"] [] sp__law_eight) {sp__law_constants : TSp} {k__law_constants : Nat} (C__law_constants : Cal P w K mg base k__law_constants "_law_constants" ["left", "words"] [] sp__law_constants) {sp__law_mixed_up : TSp} {k__law_mixed_up : Nat} (C__law_mixed_up : Cal P w K mg base k__law_mixed_up "_law_mixed_up" ["left", "facts"] [] sp__law_mixed_up) {sp__law_pick : TSp} {k__law_pick : Nat} (C__law_pick : Cal P w K mg base k__law_pick "_law_pick" ["left", "many"] [] sp__law_pick) {sp__law_some_rules : TSp} {k__law_some_rules : Nat} (C__law_some_rules : Cal P w K mg base k__law_some_rules "_law_some_rules" ["left", "facts", "goal"] [] sp__law_some_rules) {sp__law_parts : TSp} {k__law_parts : Nat} (C__law_parts : Cal P w K mg base k__law_parts "_law_parts" ["many"] [] sp__law_parts) {sp__law_stands : TSp} {k__law_stands : Nat} (C__law_stands : Cal P w K mg base k__law_stands "_law_stands" ["rules", "facts", "goal"] [] sp__law_stands) {sp__law_changed : TSp} {k__law_changed : Nat} (C__law_changed : Cal P w K mg base k__law_changed "_law_changed" ["facts", "change"] [] sp__law_changed) {sp__law_right : TSp} {k__law_right : Nat} (C__law_right : Cal P w K mg base k__law_right "_law_right" ["rules", "facts", "goal", "may", "wish", "due"] [] sp__law_right) {sp__law_due : TSp} {k__law_due : Nat} (C__law_due : Cal P w K mg base k__law_due "_law_due" ["stands", "may", "wish"] [] sp__law_due) (h__law_words : k__law_words + 2 ≤ k) (h__law_left : k__law_left + 2 ≤ k) (h__law_eight : k__law_eight + 2 ≤ k) (h__law_constants : k__law_constants + 2 ≤ k) (h__law_mixed_up : k__law_mixed_up + 2 ≤ k) (h__law_pick : k__law_pick + 2 ≤ k) (h__law_some_rules : k__law_some_rules + 2 ≤ k) (h__law_parts : k__law_parts + 2 ≤ k) (h__law_stands : k__law_stands + 2 ≤ k) (h__law_changed : k__law_changed + 2 ≤ k) (h__law_right : k__law_right + 2 ≤ k) (h__law_due : k__law_due + 2 ≤ k) {f : Addr} {cdv : Value} {A : Around} {outer : List Env} {s : Shared} {H : Hp} {E : XK} (hr : Room k (A.deeper (envOfC "law" (defScope s_law) s.heap.objs.size f cdv))) :
    PSs (cxD P w K mg base N_law "law" (defScope s_law) f cdv A outer s H E) (defBody s_law) (lowS (cxD P w K mg base N_law "law" (defScope s_law) f cdv A outer s H E) (t_law sp__law_words sp__law_left sp__law_eight sp__law_constants sp__law_mixed_up sp__law_pick sp__law_some_rules sp__law_parts sp__law_stands sp__law_changed sp__law_right sp__law_due)) :=
  (qss_cons (qs_set (i := 1) S_law.nd rfl (by first | exact Or.inl rfl | exact Or.inr rfl) (q_callC C__law_words hr (by omega) rfl (qa_cons (q_callC C__law_left hr (by omega) rfl (qa_cons (qv 0) (qa_cons q_int qa_nil))) qa_nil))) (qss_cons (qs_set (i := 2) S_law.nd rfl (by first | exact Or.inl rfl | exact Or.inr rfl) (q_callC C__law_eight hr (by omega) rfl (qa_cons (qv 1) (qa_cons (q_callC C__law_constants hr (by omega) rfl (qa_cons (q_callC C__law_left hr (by omega) rfl (qa_cons (qv 0) (qa_cons q_int qa_nil))) (qa_cons (qv 1) qa_nil))) qa_nil)))) (qss_cons (qs_set (i := 3) S_law.nd rfl (by first | exact Or.inl rfl | exact Or.inr rfl) (q_callC C__law_left hr (by omega) rfl (qa_cons (qv 0) (qa_cons q_int qa_nil)))) (qss_cons (qs_set (i := 4) S_law.nd rfl (by first | exact Or.inl rfl | exact Or.inr rfl) (q_slice (q_callC C__law_mixed_up hr (by omega) rfl (qa_cons (qv 3) (qa_cons (qv 2) qa_nil))) q_no (q_part (q_op o_add q_int (q_callC C__law_pick hr (by omega) rfl (qa_cons (qv 3) (qa_cons q_int qa_nil))))))) (qss_cons (qs_set (i := 5) S_law.nd rfl (by first | exact Or.inl rfl | exact Or.inr rfl) (q_tup (qa_cons (q_ix (u9 hr) (qv 1) q_int) (qa_cons q_int qa_nil)))) (qss_cons (qs_set (i := 6) S_law.nd rfl (by first | exact Or.inl rfl | exact Or.inr rfl) (q_callC C__law_some_rules hr (by omega) rfl (qa_cons (q_callC C__law_left hr (by omega) rfl (qa_cons (qv 0) (qa_cons q_int qa_nil))) (qa_cons (qv 2) (qa_cons (qv 5) qa_nil))))) (qss_cons (qs_set (i := 3) S_law.nd rfl (by first | exact Or.inl rfl | exact Or.inr rfl) (q_callC C__law_left hr (by omega) rfl (qa_cons (qv 0) (qa_cons q_int qa_nil)))) (qss_cons (qs_setLcF (i := 7) (own := [("fact", 11)]) rfl S_law.nd rfl rfl (L2.sw_true rfl rfl rfl rfl) (qi_lst (qv 2)) (blkOk_by rfl) (fun _ _ _ _ _ => (qgw_name (i := 11) (by decide) S_law.nd rfl (by first | exact Or.inl rfl | exact Or.inr rfl))) (fun _ _ _ _ _ => (qts_one (q_tcmp (o_eq (u64 hr)) (q_callC C__law_pick hr (by omega) rfl (qa_cons (qv 3) (qa_cons q_int qa_nil))) q_int))) (fun _ _ _ _ _ => (qv 11))) (qss_cons (qs_if (q_tcmp (o_eq (u64 hr)) (q_callC C__law_pick hr (by omega) rfl (qa_cons (qv 3) (qa_cons q_int qa_nil))) q_int) (qss_one (qs_set (i := 7) S_law.nd rfl (by first | exact Or.inl rfl | exact Or.inr rfl) (q_frz (q_op o_add (qv 7) (q_lstF (qa_cons (qv 5) (qa_cons (qv 5) qa_nil))))))) qss_nil) (qss_cons (qs_if (q_tcmp (o_eq (u64 hr)) (q_callC C__law_pick hr (by omega) rfl (qa_cons (qv 3) (qa_cons q_int qa_nil))) q_int) (qss_one (qs_asg (qv 5) (qg_sub (u9 hr) (qv 4) (q_callC C__law_pick hr (by omega) rfl (qa_cons (qv 3) (qa_cons (q_callB b_len rfl T.n_len boot_len (qa_cons (qv 4) qa_nil)) qa_nil)))))) qss_nil) (qss_fz 4 (qss_cons (qs_set (i := 8) S_law.nd rfl (by first | exact Or.inl rfl | exact Or.inr rfl) q_dict0) (qss_cons (qs_for PassesOwn.never rfl (qi_lst (q_callC C__law_parts hr (by omega) rfl (qa_cons (q_callB b_len rfl T.n_len boot_len (qa_cons (qv 4) qa_nil)) qa_nil))) (qg_name (i := 9) S_law.nd rfl (by first | exact Or.inl rfl | exact Or.inr rfl)) (qss_one (qs_asg (q_callC C__law_stands hr (by omega) rfl (qa_cons (qv 6) (qa_cons (q_callC C__law_changed hr (by omega) rfl (qa_cons (qv 7) (qa_cons (q_frz (q_lc (own := [("place", 12)]) rfl S_law.nd (qi_lst (qv 9)) (blkOk_by rfl) (fun _ _ _ _ _ => (qgw_name (i := 12) (by decide) S_law.nd rfl (by first | exact Or.inl rfl | exact Or.inr rfl))) (fun _ _ _ _ _ => qts_nil) (fun _ _ _ _ _ => (q_ix (u9 hr) (qv 4) (qv 12))))) qa_nil))) (qa_cons (qv 5) qa_nil)))) (qg_sub (u9 hr) (qv 8) (q_callTy b_tup rfl T.n_tuple boot_tuple (qa_cons (qv 9) qa_nil)))))) (qss_cons (qs_for PassesOwn.never rfl (qi_tup (q_tup (qa_cons q_bl (qa_cons q_bl qa_nil)))) (qg_name (i := 10) S_law.nd rfl (by first | exact Or.inl rfl | exact Or.inr rfl)) (qss_one (qs_if (q_not (q_tval (q_callC C__law_right hr (by omega) rfl (qa_cons (qv 6) (qa_cons (qv 7) (qa_cons (qv 5) (qa_cons (qv 4) (qa_cons (qv 10) (qa_cons (q_callC C__law_due hr (by omega) rfl (qa_cons (qv 8) (qa_cons (qv 4) (qa_cons (qv 10) qa_nil)))) qa_nil))))))))) (qss_one (qs_ret q_bl)) qss_nil))) (qss_one (qs_ret q_bl))))))))))))))))
end
end K82
set_option Elab.async false
set_option linter.all false
set_option maxRecDepth 100000
set_option maxHeartbeats 4000000
namespace K82
open PySem PySem.Spec L2 PyProof.Rows TL
def wsigns : PySem.Str := "abcdefghijklmnopqrstuvwxyz0123456789."
def small : PySem.Str := "abcdefghijklmnopqrstuvwxyz"
structure okW (x : PySem.Str) : Prop where
  lo : 1 ≤ x.length
  hi : x.length ≤ 40
  hd : ∃ c r, x.cps.toList = c :: r ∧ c ∈ small.cps.toList
  all : ∀ c ∈ x.cps.toList, c ∈ wsigns.cps.toList
def sp_word : TSp := pS 1 (fun ds _ => ∃ x, ds = [.str x] ∧ okW x) (fun _ _ => .bl true)
theorem sg_len (x : PySem.Str) : (signsT x).length = x.length := by simp [signsT]; rfl
theorem p_is_word (ds : List T) (g : G) (Q : K1) (h : sp_word ds g Q noX) : t_is_word { nx := fun _ g' => Q .non g', rt := Q } (TL.startT N_is_word ds) g := by
  obtain ⟨_, ⟨x, rfl, w⟩, q⟩ := h
  obtain ⟨c, r, e, hc⟩ := w.hd
  have hl : x.length = x.cps.size := rfl
  have hi := w.hi
  have lo := w.lo
  have hz : x.length ≤ sizeLine := by rw [sizeLine_eq]; omega
  have e0 : x.cps.toList[0]? = some c := by rw [e]; rfl
  have hc' : c ∈ (PySem.Str.ofString "abcdefghijklmnopqrstuvwxyz").cps.toList := hc
  unfold t_is_word
  simp only [qSeq, qIfS, qOr, qNot, qTB, qCB, qCons, qNil, qVar, qC, TL.startT, sl, bIsi, c2, c1, res, tyN, isStr, isB, qChain, cLe, n2, bLen, lenV, qNext, qRet, qAndV, qOp, aIx, ixV, idx, List.map_cons, List.map_nil, List.length_cons, List.length_nil, List.cons_append, List.nil_append, Option.isSome_some, true_and, Bool.not_true, Bool.false_eq_true, if_false, decide_eq_true_eq, if_true]
  refine ⟨hz, ?_⟩
  rw [if_pos (by omega)]
  rw [if_neg (by simp; omega)]
  refine ⟨hz, ?_⟩
  show (match x.cps.toList[0]? with | some c => _ | none => False)
  rw [e0]
  simp only [cIn, cInV, res, chr1, isB]
  rw [if_pos (by simpa using hc')]
  refine lcF (F := fun _ => some (.bl true)) (ts := signsT x) (kp := yes) (fun R h => h) (fun _ _ => trivial) (fun t ht g' K hs hk => ?_) (by rw [sg_len]; exact hz) ?_
  · unfold signsT at ht
    obtain ⟨d, hd, rfl⟩ := List.mem_map.mp ht
    have hw : d ∈ (PySem.Str.ofString "abcdefghijklmnopqrstuvwxyz0123456789.").cps.toList := w.all d hd
    simp only [gtName, qYes, qOp, qVar, qC, wipeT, sl, cIn, cInV, res, chr1, List.set_cons_succ, List.set_cons_zero, List.replicate, if_true]
    simpa [hw] using hk
  · simp only [bAll, c1, res]
    have : bools ((signsT x).filterMap fun _ => some (T.bl true)) = some (List.replicate (signsT x).length true) := by
      generalize signsT x = l
      induction l with
      | nil => rfl
      | cons a l ih => simp [bools, List.replicate_succ] at ih ⊢; exact ih
    rw [this]
    simpa using q
/-- things, so deep -/
def Th : Nat → T → Prop
  | _, .int i => -(10 ^ 40 : Int) < i ∧ i < 10 ^ 40
  | 0, .tup ts => ∃ x, ts = [.str x] ∧ okW x
  | n + 1, .tup ts => ∃ x r, ts = .str x :: r ∧ okW x ∧ r.length ≤ 4 ∧ ∀ t ∈ r, Th n t
  | _, _ => False
theorem th_or {n : Nat} {t : T} (h : Th n t) : (∃ i, t = .int i ∧ -(10 ^ 40 : Int) < i ∧ i < 10 ^ 40) ∨ ∃ x r, t = .tup (.str x :: r) ∧ okW x ∧ r.length ≤ 4 ∧ (r = [] ∨ ∃ m, n = m + 1 ∧ ∀ t ∈ r, Th m t) := by
  cases t with
  | int i => cases n <;> exact .inl ⟨i, rfl, h⟩
  | tup ts =>
    cases n with
    | zero => obtain ⟨x, rfl, w⟩ := h; exact .inr ⟨x, [], rfl, w, by simp, .inl rfl⟩
    | succ n => obtain ⟨x, r, rfl, w, hl, ha⟩ := h; exact .inr ⟨x, r, rfl, w, hl, .inr ⟨n, rfl, ha⟩⟩
  | _ => cases n <;> exact h.elim
def isI : T → Bool
  | .int _ => true
  | _ => false
def sp_number : TSp := pS 1 (fun ds _ => ∃ t, ds = [t] ∧ ((∃ i, t = .int i ∧ -(10 ^ 40 : Int) < i ∧ i < 10 ^ 40) ∨ ∃ ts, t = .tup ts)) (fun ds _ => .bl (isI (ds.headD .non)))
theorem p_is_number (ds : List T) (g : G) (Q : K1) (h : sp_number ds g Q noX) : t_is_number { nx := fun _ g' => Q .non g', rt := Q } (TL.startT N_is_number ds) g := by
  obtain ⟨_, ⟨t, rfl, ⟨i, rfl, h1, h2⟩ | ⟨ts, rfl⟩⟩, q⟩ := h
  · unfold t_is_number
    simp only [qSeq, qIfS, qOr, qNot, qTB, qCB, qCons, qNil, qVar, qC, TL.startT, sl, bIsi, c2, c1, res, tyN, TL.isInt, TL.isBool, isB, qChain, cLt, n2, uNeg, qNotV, qNext, qRet, qAndV, qOp, List.map_cons, List.map_nil, List.length_cons, List.length_nil, List.cons_append, List.nil_append, Option.isSome_some, true_and, Bool.not_true, Bool.not_false, Bool.false_eq_true, if_false, decide_eq_true_eq, if_true]
    rw [if_pos (by omega), decide_eq_true (by omega)]
    exact q
  · unfold t_is_number
    simp only [qSeq, qIfS, qOr, qNot, qTB, qCB, qCons, qNil, qVar, qC, TL.startT, sl, bIsi, c2, c1, res, tyN, TL.isInt, TL.isBool, isB, qRet, qAndV, List.map_cons, List.map_nil, List.length_cons, List.length_nil, List.cons_append, List.nil_append, Option.isSome_some, true_and, Bool.false_eq_true, if_false]
    exact q
def sp_headed : TSp := pS 1 (fun ds _ => ∃ x r, ds = [.tup (.str x :: r)] ∧ okW x ∧ r.length ≤ 4) (fun _ _ => .bl true)
theorem p_is_headed (ds : List T) (g : G) (Q : K1) (h : sp_headed ds g Q noX) : t_is_headed sp_word { nx := fun _ g' => Q .non g', rt := Q } (TL.startT N_is_headed ds) g := by
  obtain ⟨_, ⟨x, r, rfl, w, hl⟩, q⟩ := h
  unfold t_is_headed
  simp only [qSeq, qIfS, qOr, qNot, qTB, qCB, qCons, qNil, qVar, qC, TL.startT, sl, bIsi, c2, c1, res, tyN, TL.isTup, isB, qChain, cLe, n2, bLen, lenV, qRet, qAndV, qOp, aIx, ixV, aAdd, qCall, idx, List.map_cons, List.map_nil, List.length_cons, List.length_nil, List.cons_append, List.nil_append, Option.isSome_some, true_and, Bool.false_eq_true, if_false, decide_eq_true_eq, if_true]
  rw [if_pos (by omega), if_pos (by omega)]
  show sp_word ([.str x] ++ []) g Q noX
  exact ⟨rfl, ⟨x, rfl, w⟩, q⟩
def sp_within (n : Nat) : TSp := pS 2 (fun ds _ => ∃ t d, ds = [t, .int (d : Nat)] ∧ Th d t ∧ d < n) (fun _ _ => .bl true)
theorem all_true {l : List T} : bools (l.filterMap fun _ => some (T.bl true)) = some (List.replicate l.length true) := by
  induction l with
  | nil => rfl
  | cons a l ih => simp [bools, List.replicate_succ] at ih ⊢; exact ih
theorem p_is_within (n : Nat) (ds : List T) (g : G) (Q : K1) (h : sp_within (n + 1) ds g Q noX) : t_is_within sp_number sp_headed (sp_within n) { nx := fun _ g' => Q .non g', rt := Q } (TL.startT N_is_within ds) g := by
  obtain ⟨_, ⟨t, d, rfl, w, hn⟩, q⟩ := h
  rcases th_or w with ⟨i, rfl, h1, h2⟩ | ⟨x, r, rfl, w, hl, hr⟩
  · unfold t_is_within
    simp only [qSeq, qIfS, qTB, qCons, qNil, qVar, qC, TL.startT, sl, isB, qRet, qCall, List.map_cons, List.map_nil, List.length_cons, List.length_nil, List.cons_append, List.nil_append]
    exact ⟨rfl, ⟨_, rfl, .inl ⟨i, rfl, h1, h2⟩⟩, q⟩
  · unfold t_is_within
    simp only [qSeq, qIfS, qTB, qNot, qCons, qNil, qVar, qC, TL.startT, sl, isB, qRet, qCall, List.map_cons, List.map_nil, List.length_cons, List.length_nil, List.cons_append, List.nil_append]
    refine ⟨rfl, ⟨_, rfl, .inr ⟨_, rfl⟩⟩, ?_⟩
    simp only [List.headD, isI, isB, Bool.false_eq_true, if_false, qNext]
    refine ⟨rfl, ⟨x, r, rfl, w, hl⟩, ?_⟩
    simp only [isB, Bool.not_true, Bool.false_eq_true, if_false, qNext]
    simp only [qSeq, qIfS, qTB, qOp, qCB, bLen, c1, res, lenV, cEq, cEqV, qCons, qNil, qVar, qC, sl, isB, List.length_cons]
    rcases hr with rfl | ⟨m, rfl, ha⟩
    · simpa [qRet, qC] using q
    · by_cases hr0 : r = []
      · subst hr0
        simpa [qRet, qC] using q
      · have hr1 : r.length ≠ 0 := fun z => hr0 (List.eq_nil_of_length_eq_zero z)
        rw [if_neg (by simp; omega)]
        simp only [qNext, qRet, qAndV, qOp, cGt, n2, qVar, qC, sl, isB]
        rw [if_pos (by simp)]
        simp only [qCB, qCons, qNil]
        have hct : cutT (T.str x :: r) (some 1) none = r := by
          simp [cutT, HT.sIx]
        refine lcF (F := fun _ => some (.bl true)) (ts := r) (kp := yes) (fun R h => ?_) (fun _ _ => trivial) (fun t ht g' K hs hk => ?_) (by rw [sizeLine_eq]; omega) ?_
        · simp only [iTp, qSl, qPart, qNoPart, qVar, qC, sl, slV, res, hct]
          refine ⟨?_, h⟩
          simp [HT.sIx]
        · simp only [gtName, qYes, qCall, qCons, qNil, qOp, qVar, qC, wipeT, sl, aSub, n2, List.set_cons_succ, List.set_cons_zero, List.replicate, if_true]
          refine ⟨rfl, ⟨t, m, ?_, ha t ht, by omega⟩, hk⟩
          simp
        · simp only [bAll, c1, res, all_true]
          simpa using q
def sp_thing : TSp := pS 1 (fun ds _ => ∃ t, ds = [t] ∧ Th 6 t) (fun _ _ => .bl true)
theorem p_is_thing (ds : List T) (g : G) (Q : K1) (h : sp_thing ds g Q noX) : t_is_thing (sp_within 7) { nx := fun _ g' => Q .non g', rt := Q } (TL.startT N_is_thing ds) g := by
  obtain ⟨_, ⟨t, rfl, w⟩, q⟩ := h
  exact ⟨rfl, ⟨t, 6, rfl, w, by omega⟩, q⟩
def sp_fact : TSp := pS 1 (fun ds _ => ∃ ts, ds = [.tup ts] ∧ Th 6 (.tup ts)) (fun _ _ => .bl true)
theorem p_is_fact (ds : List T) (g : G) (Q : K1) (h : sp_fact ds g Q noX) : t_is_fact sp_thing { nx := fun _ g' => Q .non g', rt := Q } (TL.startT N_is_fact ds) g := by
  obtain ⟨_, ⟨ts, rfl, w⟩, q⟩ := h
  unfold t_is_fact
  simp only [qCB, qCons, qNil, qVar, qC, TL.startT, sl, bIsi, c2, res, tyN, TL.isTup, isB, qRet, qAndV, qCall, List.map_cons, List.map_nil, List.cons_append, List.nil_append, Option.isSome_some, true_and, if_true]
  exact ⟨rfl, ⟨_, rfl, w⟩, q⟩

mutual
def rk : T → T
  | .int i => .tup [.int 0, .int i]
  | .tup ts => .tup (rkc ts)
  | t => t
def rkc : List T → List T
  | [] => []
  | x :: r => [.int 1, x, .int ((r.length + 1 : Nat) : Int), .tup (rks r)]
def rks : List T → List T
  | [] => []
  | t :: r => rk t :: rks r
end
def sp_rank (n : Nat) : TSp := pS 1 (fun ds _ => ∃ t d, ds = [t] ∧ Th d t ∧ d < n) (fun ds _ => rk (ds.headD .non))
/-- a tuple's word and its length -/
def shT : T → T
  | .tup (x :: r) => .tup [x, .int (r.length : Nat)]
  | t => t
def sp_shape : TSp := pS 1 (fun ds _ => ∃ x r, ds = [.tup (x :: r)] ∧ r.length < sizeLine) (fun ds _ => shT (ds.headD .non))
theorem p_shape_of (ds : List T) (g : G) (Q : K1) (h : sp_shape ds g Q noX) : t_shape_of { nx := fun _ g' => Q .non g', rt := Q } (TL.startT N_shape_of ds) g := by
  obtain ⟨_, ⟨x, r, rfl, hl⟩, q⟩ := h
  unfold t_shape_of
  simp only [qTup, qCB, qCons, qNil, qVar, qC, qOp, TL.startT, sl, c1, res, aIx, ixV, idx, bLen, lenV, aSub, n2, qRet, List.map_cons, List.map_nil, List.cons_append, List.nil_append, List.length_cons, List.length_nil]
  show (_ ≤ sizeLine) ∧ Q _ g
  refine ⟨by decide, ?_⟩
  have e : ((r.length + 1 : Nat) : Int) - 1 = (r.length : Nat) := by omega
  rw [e]
  exact q
def sp_rshape : TSp := pS 1 (fun ds _ => ∃ x r b, ds = [.tup [.tup (x :: r), .non, b]] ∧ r.length < sizeLine) (fun ds _ => match ds with
  | [.tup [h, _, _]] => shT h
  | _ => .non)
theorem p_rule_shape (ds : List T) (g : G) (Q : K1) (h : sp_rshape ds g Q noX) : t_rule_shape sp_shape { nx := fun _ g' => Q .non g', rt := Q } (TL.startT N_rule_shape ds) g := by
  obtain ⟨_, ⟨x, r, b, rfl, hl⟩, q⟩ := h
  unfold t_rule_shape
  simp only [qSeq, qAsg, qCall, qCons, qNil, qVar, qC, qOp, TL.startT, sl, res, aIx, ixV, idx, List.map_cons, List.map_nil, List.cons_append, List.nil_append, List.length_cons, List.length_nil]
  refine ⟨rfl, ⟨x, r, rfl, hl⟩, ?_⟩
  simp only [List.headD, shT, gtTup, gtCons, gtName, gtNil, qIfS, qTB, qOp, qVar, qC, List.replicate, List.set_cons_succ, List.set_cons_zero, sl, res, aIx, ixV, idx, cNotN]
  refine ⟨rfl, ?_⟩
  show (_ ≤ sizeLine) ∧ Q _ g
  exact ⟨by rw [sizeLine_eq]; simp, q⟩
def sp_name : TSp := pS 1 (fun ds _ => ∃ t d, ds = [t] ∧ Th d t) (fun _ _ => .bl false)
theorem p_is_name (ds : List T) (g : G) (Q : K1) (h : sp_name ds g Q noX) : t_is_name { nx := fun _ g' => Q .non g', rt := Q } (TL.startT N_is_name ds) g := by
  obtain ⟨_, ⟨t, d, rfl, w⟩, q⟩ := h
  rcases th_or w with ⟨i, rfl, _⟩ | ⟨x, r, rfl, _⟩ <;>
  · unfold t_is_name
    simp only [qSeq, qIfS, qOr, qNot, qTB, qCB, qCons, qNil, qVar, qC, TL.startT, sl, bIsi, c2, res, tyN, isStr, isB, qRet, List.map_cons, List.map_nil, List.cons_append, List.nil_append, Option.isSome_some, true_and, Bool.not_false, if_true]
    exact q
def sp_filled (n : Nat) : TSp := pS 2 (fun ds _ => ∃ fl t d, ds = [fl, t] ∧ Th d t ∧ d < n) (fun ds _ => ds.getD 1 .non)
theorem p_filled (n : Nat) (ds : List T) (g : G) (Q : K1) (h : sp_filled (n + 1) ds g Q noX) : t_filled (sp_filled n) { nx := fun _ g' => Q .non g', rt := Q } (TL.startT N_filled ds) g := by
  obtain ⟨_, ⟨fl, t, d, rfl, w, hn⟩, q⟩ := h
  rcases th_or w with ⟨i, rfl, _⟩ | ⟨x, r, rfl, wx, hl, hr⟩
  · unfold t_filled
    simp only [qSeq, qIfS, qTB, qCB, qCons, qNil, qVar, qC, TL.startT, sl, bIsi, c2, res, tyN, isStr, TL.isTup, isB, qRet, qNext, List.map_cons, List.map_nil, List.cons_append, List.nil_append, Option.isSome_some, true_and, Bool.false_eq_true, if_false]
    exact q
  · unfold t_filled
    simp only [qSeq, qIfS, qTB, qCB, qCons, qNil, qVar, qC, TL.startT, sl, bIsi, c2, res, tyN, isStr, TL.isTup, isB, qRet, qNext, qOp, qTup, aIx, ixV, idx, List.map_cons, List.map_nil, List.cons_append, List.nil_append, Option.isSome_some, true_and, Bool.false_eq_true, if_false, if_true, List.length_cons, List.length_nil]
    show (_ ≤ sizeLine) ∧ _
    refine ⟨by decide, ?_⟩
    have hct : cutT (T.str x :: r) (some 1) none = r := by simp [cutT, HT.sIx]
    refine lcF (F := fun t => some t) (ts := r) (kp := yes) (fun R h => ?_) (fun _ _ => trivial) (fun t ht g' K hs hk => ?_) (by rw [sizeLine_eq]; omega) ?_
    · simp only [iTp, qSl, qPart, qNoPart, qVar, qC, sl, slV, res, hct]
      refine ⟨?_, h⟩
      simp [HT.sIx]
    · simp only [gtName, qYes, qCall, qCons, qNil, qVar, wipeT, sl, List.set_cons_succ, List.set_cons_zero, List.replicate, if_true]
      rcases hr with rfl | ⟨m, rfl, ha⟩
      · cases ht
      · exact ⟨rfl, ⟨fl, t, m, rfl, ha t ht, by omega⟩, hk⟩
    · simp only [List.filterMap_some, c1, bTup, res, aAdd]
      exact ⟨by simp, by rw [sizeLine_eq]; simp; omega, q⟩
def sp_names (n : Nat) : TSp := pS 1 (fun ds _ => ∃ t d, ds = [t] ∧ Th d t ∧ d < n) (fun _ _ => .lst [])
theorem p_names_within (n : Nat) (ds : List T) (g : G) (Q : K1) (h : sp_names (n + 1) ds g Q noX) : t_names_within sp_name (sp_names n) { nx := fun _ g' => Q .non g', rt := Q } (TL.startT N_names_within ds) g := by
  obtain ⟨_, ⟨t, d, rfl, w, hn⟩, q⟩ := h
  unfold t_names_within
  simp only [qSeq, qIfS, qTB, qCons, qNil, qVar, TL.startT, sl, qCall, List.map_cons, List.map_nil, List.cons_append, List.nil_append, List.length_cons, List.length_nil]
  refine ⟨rfl, ⟨t, d, rfl, w⟩, ?_⟩
  simp only [isB, Bool.false_eq_true, if_false, qNext, qAsg, qLst, qNil, gtName, List.replicate, List.set_cons_succ, List.set_cons_zero]
  refine ⟨Nat.zero_le _, fun p hp => ?_⟩
  have fin : ∀ δ : TSt, sl δ 1 = some (.ref p) → qRet (qFrz (qVar 1)) { nx := fun _ g' => Q .non g', rt := Q } δ (gput g p (.lst [])) := fun δ hd => by
    simp only [qRet, qFrz, qVar, hd, gput_same]
    rw [gdel_put hp]
    exact q
  rcases th_or w with ⟨i, rfl, _⟩ | ⟨x, r, rfl, wx, hl, hr⟩
  · simp only [gtName, qSeq, List.set_cons_succ, List.set_cons_zero, qIfS, qTB, qCB, qCons, qNil, qVar, qC, sl, bIsi, c2, res, tyN, TL.isTup, isB, Option.isSome_some, true_and, Bool.false_eq_true, if_false, qNext]
    exact fin _ rfl
  · show qSeq _ _ _ [some (.tup (.str x :: r)), some (.ref p), none] _
    simp only [qSeq, qIfS, qTB, qCB, qCons, qNil, qVar, qC, sl, bIsi, c2, res, tyN, TL.isTup, isB, Option.isSome_some, true_and, if_true]
    have hct : cutT (T.str x :: r) (some 1) none = r := by simp [cutT, HT.sIx]
    simp only [qFor, iTp, qSl, qPart, qNoPart, qVar, qC, sl, slV, res, hct]
    refine ⟨by simp [HT.sIx], ?_⟩
    have go : ∀ (us : List T), (∀ u ∈ us, u ∈ r) → ∀ δ : TSt, δ.length = 3 → sl δ 1 = some (.ref p) →
        wFor yes (gtName 2) (qDrop (qBM "list" mExtend (qVar 1) (qCons (qCall (sp_names n) [] (qCons (qVar 2) qNil)) qNil))) { nx := qRet (qFrz (qVar 1)) { nx := fun _ g' => Q .non g', rt := Q }, rt := Q } us δ (gput g p (.lst [])) := by
      intro us
      induction us with
      | nil => intro _ δ _ hd; exact ⟨trivial, fin δ hd⟩
      | cons u us ih =>
        intro hm δ hz hd
        refine ⟨trivial, ?_⟩
        have h1 : sl (δ.set 2 (some u)) 1 = some (.ref p) := by
          match δ, hz with
          | [a, b, c], _ => exact hd
        have h2 : sl (δ.set 2 (some u)) 2 = some u := by
          match δ, hz with
          | [a, b, c], _ => rfl
        simp only [gtName, qDrop, qBM, qVar, h1, h2, qCons, qNil, qCall]
        refine ⟨by simp [res, gput_same, TL.isTp], ?_⟩
        rcases hr with rfl | ⟨m, rfl, ha⟩
        · exact absurd (hm u (List.mem_cons_self ..)) (by simp)
        · refine ⟨rfl, ⟨u, m, rfl, ha u (hm u (List.mem_cons_self ..)), by omega⟩, ?_⟩
          simp only [mExtend, m1, gl, gput_same, res]
          refine ⟨by simp [sizeLine_eq], ?_⟩
          rw [gput_put]
          exact ih (fun v hv => hm v (List.mem_cons_of_mem _ hv)) _ (by simp [hz]) h1
    exact go r (fun _ h => h) _ rfl rfl
/-- {t: True, ..} -/
def onceT (ts : List T) (kvs : List (T × T)) : List (T × T) := ts.foldl (fun acc t => putT acc t (.bl true)) kvs
theorem putT_tup {kvs : List (T × T)} {k v : T} (hk : tupK k = true) (h : (kvs.all fun p => tupK p.1) = true) : ((putT kvs k v).all fun p => tupK p.1) = true := by
  unfold putT
  split
  · rw [List.all_map]
    refine List.all_eq_true.mpr fun p hp => ?_
    have := List.all_eq_true.mp h p hp
    simp only [Function.comp]
    split <;> simpa using this
  · rw [List.all_append, h]
    simp [hk]
theorem once_loop {keep : G → Prop} {D : TEnds} {p : Addr} {g : G} (hk : ∀ o, keep (gput g p o)) : ∀ (us : List T) (kvs : List (T × T)) (δ : TSt), (∀ t ∈ us, tupK t = true) → (kvs.all fun p => tupK p.1) = true → kvs.length + us.length ≤ sizeLine → δ.length = 3 → sl δ 1 = some (.ref p) →
    (∀ δ' : TSt, δ'.length = 3 → sl δ' 1 = some (.ref p) → D.nx δ' (gput g p (.dct (onceT us kvs)))) →
    wFor keep (gtName 2) (qAsg (qC (.bl true)) (gtSub (qVar 1) (qVar 2))) D us δ (gput g p (.dct kvs))
  | [], kvs, δ, _, _, _, hz, hd, hq => ⟨hk _, hq δ hz hd⟩
  | u :: us, kvs, δ, hu, ht, hl, hz, hd, hq => by
    refine ⟨hk _, ?_⟩
    have h1 : sl (δ.set 2 (some u)) 1 = some (.ref p) := by
      match δ, hz with
      | [a, b, c], _ => exact hd
    have h2 : sl (δ.set 2 (some u)) 2 = some u := by
      match δ, hz with
      | [a, b, c], _ => rfl
    have hku := hu u (List.mem_cons_self ..)
    simp only [List.length_cons] at hl
    simp only [gtName, qAsg, qC, gtSub, qVar, h1, h2]
    refine .inr ?_
    simp only [gd, gput_same]
    refine ⟨by simp only [kOk, Bool.or_eq_true, Bool.and_eq_true]; exact .inr ⟨hku, ht⟩, by omega, ?_⟩
    rw [gput_put]
    exact once_loop hk us _ _ (fun v hv => hu v (List.mem_cons_of_mem _ hv)) (putT_tup hku ht) (by have := putT_len kvs u (.bl true); omega) (by simp [hz]) h1 hq
def sp_once : TSp := fun ds g Q _ => ∃ ts, ds = [.lst ts] ∧ (∀ t ∈ ts, tupK t = true) ∧ ts.length ≤ sizeLine ∧ Q (.dct (onceT ts [])) g
theorem p_each_once (ds : List T) (g : G) (Q : K1) (h : sp_once ds g Q noX) : t_each_once { nx := fun _ g' => Q .non g', rt := Q } (TL.startT N_each_once ds) g := by
  obtain ⟨ts, rfl, ht, hl, q⟩ := h
  unfold t_each_once
  simp only [qSeq, qAsg, qDict0, TL.startT, List.map_cons, List.map_nil, List.cons_append, List.nil_append, List.length_cons, List.length_nil, List.replicate]
  intro p hp
  show qFor _ _ _ _ [some (.lst ts), some (.ref p), none] _
  simp only [qFor, iLst, qVar, sl]
  refine once_loop (fun _ => trivial) ts [] _ ht rfl (by simpa using hl) rfl rfl fun δ' _ hd => ?_
  simp only [qRet, qFrz, qVar, hd, gput_same]
  rw [gdel_put hp]
  exact q
/-- a ground part: is or not of a thing -/
structure Pt (t : T) (w : PySem.Str) (a : T) : Prop where
  eq : t = .tup [.str w, a]
  wd : w = "is" ∨ w = "not"
  th : Th 6 a
  key : tupK a = true
/-- it stands in a table of facts -/
def stT (kvs : List (T × T)) (w : PySem.Str) (a : T) : Bool := if w = "is" then (look kvs a).isSome else !(look kvs a).isSome
theorem kOk_t {kvs : List (T × T)} {k : T} (hk : tupK k = true) (h : (kvs.all fun p => tupK p.1) = true) : kOk kvs k = true := by
  simp only [kOk, Bool.or_eq_true, Bool.and_eq_true]
  exact .inr ⟨hk, h⟩
theorem eni : decide (PySem.Str.ofString "not" = PySem.Str.ofString "is") = false := by decide
def sp_holds : TSp := fun ds g Q _ => ∃ t w a fl kvs, ds = [t, fl, .dct kvs] ∧ Pt t w a ∧ (kvs.all fun p => tupK p.1) = true ∧ Q (.bl (stT kvs w a)) g
theorem p_holds (ds : List T) (g : G) (Q : K1) (h : sp_holds ds g Q noX) : t_holds (sp_filled 7) { nx := fun _ g' => Q .non g', rt := Q } (TL.startT N_holds ds) g := by
  obtain ⟨t, w, a, fl, kvs, rfl, ⟨rfl, hw, ha, hka⟩, hk, q⟩ := h
  unfold t_holds
  rcases hw with rfl | rfl
  · simp only [qSeq, qIfS, qTB, qOp, cEq, cEqV, aIx, ixV, idx, res, qVar, qC, TL.startT, sl, isB, List.map_cons, List.map_nil, List.cons_append, List.nil_append, List.length_cons, List.length_nil, List.getElem?_cons_zero, eni, if_true, if_false, decide_true, Bool.false_eq_true, qNext]
    simp only [qRet, qOp, qCall, qCons, qNil, qVar, qC, sl, aIx, ixV, idx, res, List.getElem?_cons_zero, List.getElem?_cons_succ]
    refine ⟨rfl, ⟨fl, a, 6, rfl, ha, by omega⟩, ?_⟩
    simp only [cIn, cInV, res, List.getD_cons_succ, List.getD_cons_zero, List.cons_append, List.nil_append]
    have er : res g a = a := by
      rcases th_or ha with ⟨i, rfl, _⟩ | ⟨x, r, rfl, _⟩ <;> rfl
    unfold res at er
    simp only [er]
    exact ⟨kOk_t hka hk, by simpa [stT] using q⟩
  · simp only [qSeq, qIfS, qTB, qOp, cEq, cEqV, aIx, ixV, idx, res, qVar, qC, TL.startT, sl, isB, List.map_cons, List.map_nil, List.cons_append, List.nil_append, List.length_cons, List.length_nil, List.getElem?_cons_zero, eni, if_true, if_false, decide_true, Bool.false_eq_true, qNext]
    simp only [qRet, qOp, qCall, qCons, qNil, qVar, qC, sl, aIx, ixV, idx, res, List.getElem?_cons_zero, List.getElem?_cons_succ]
    refine ⟨rfl, ⟨fl, a, 6, rfl, ha, by omega⟩, ?_⟩
    simp only [cNotIn, cInV, res, List.getD_cons_succ, List.getD_cons_zero, List.cons_append, List.nil_append]
    have er : res g a = a := by
      rcases th_or ha with ⟨i, rfl, _⟩ | ⟨x, r, rfl, _⟩ <;> rfl
    unfold res at er
    simp only [er]
    refine ⟨kOk_t hka hk, ?_⟩
    have e : stT kvs "not" a = !(look kvs a).isSome := if_neg (by decide)
    rw [← e]
    exact q
def sp_gone : TSp := fun ds g Q _ => ∃ t w a kvs, ds = [t, .dct [], .dct kvs] ∧ Pt t w a ∧ (kvs.all fun p => tupK p.1) = true ∧ Q (.lst (if stT kvs w a then [.dct []] else [])) g
theorem resTh {n : Nat} {t : T} (g : G) (h : Th n t) : res g t = t := by
  rcases th_or h with ⟨i, rfl, _⟩ | ⟨x, r, rfl, _⟩ <;> rfl
theorem inl1 : decide (PySem.Str.ofString "not" = PySem.Str.ofString "let") = false := by decide
theorem p_gone_on (ds : List T) (g : G) (Q : K1) (h : sp_gone ds g Q noX) : t_gone_on (sp_filled 7) (sp_names 7) sp_holds { nx := fun _ g' => Q .non g', rt := Q } (TL.startT N_gone_on ds) g := by
  obtain ⟨t, w, a, kvs, rfl, ⟨rfl, hw, ha, hka⟩, hk, q⟩ := h
  unfold t_gone_on
  rcases hw with rfl | rfl
  · simp only [qSeq, qIfS, qTB, qOp, cEq, cEqV, aIx, ixV, idx, res, qVar, qC, TL.startT, sl, isB, List.map_cons, List.map_nil, List.cons_append, List.nil_append, List.length_cons, List.length_nil, List.getElem?_cons_zero, List.getElem?_cons_succ, if_true, if_false, decide_true, Bool.false_eq_true, qNext, qAsg, qCall, qCons, qNil]
    refine ⟨rfl, ⟨_, a, 6, rfl, ha, by omega⟩, ?_⟩
    simp only [gtName, List.replicate, List.set_cons_succ, List.set_cons_zero, List.getD_cons_succ, List.getD_cons_zero]
    refine ⟨rfl, ⟨a, 6, rfl, ha, by omega⟩, ?_⟩
    refine ⟨Nat.zero_le _, rfl, rfl, ?_⟩
    have ee : eqb (T.lst []) (T.lst []) = true := by simp [eqb, eqbs]
    show isB _ (.bl (eqb (.lst []) (.lst []))) g
    rw [ee]
    simp only [isB, if_true]
    simp only [qRet, qFrz, qSl, qLstF, qCons, qNil, qNoPart, qPart, qCB, qOp, qVar, sl]
    refine ⟨by rw [sizeLine_eq]; simp, ?_⟩
    simp only [cIn]
    rw [resTh g ha]
    simp only [res, cInV]
    refine ⟨kOk_t hka hk, ?_⟩
    simp only [bInt, c1]
    have es : stT kvs (PySem.Str.ofString "is") a = (look kvs a).isSome := if_pos rfl
    rw [es] at q
    cases hs : (look kvs a).isSome with
    | true =>
      rw [hs] at q
      simp only [if_true] at q ⊢
      intro p hp
      simp only [gput_same]
      rw [gdel_put hp]
      exact q
    | false =>
      rw [hs] at q
      simp only [Bool.false_eq_true, if_false] at q ⊢
      intro p hp
      simp only [gput_same]
      rw [gdel_put hp]
      exact q
  · simp only [qSeq, qIfS, qTB, qOp, cEq, cEqV, aIx, ixV, idx, res, qVar, qC, TL.startT, sl, isB, List.map_cons, List.map_nil, List.cons_append, List.nil_append, List.length_cons, List.length_nil, List.getElem?_cons_zero, List.getElem?_cons_succ, if_true, if_false, decide_true, Bool.false_eq_true, qNext, qAsg, qCall, qCons, qNil, eni, inl1]
    refine ⟨_, _, a, _, _, rfl, ⟨rfl, .inr rfl, ha, hka⟩, hk, ?_⟩
    simp only [isB]
    split
    · rename_i e
      rw [if_pos e] at q
      exact ⟨by rw [sizeLine_eq]; simp, q⟩
    · rename_i e
      rw [if_neg e] at q
      exact ⟨Nat.zero_le _, q⟩
/-- a list's items, tracked or frozen -/
def lsT (g : G) (d : T) : Option (List T) := match res g d with
  | .lst ts => some ts
  | _ => none
theorem iLst_at {i : Nat} {δ : TSt} {g : G} {d : T} {ts : List T} (hd : sl δ i = some d) (h : lsT g d = some ts) : ∃ kp : G → Prop, (∀ g', Sub g g' → kp g') ∧ ∀ R : Src → G → Prop, R ⟨ts, kp⟩ g → iLst (qVar i) δ g R := by
  unfold lsT at h
  cases d with
  | lst us =>
    simp only [res, Option.some.injEq] at h
    subst h
    exact ⟨yes, fun _ _ => trivial, fun R q => by simpa only [iLst, qVar, hd] using q⟩
  | ref a =>
    cases e : g a with
    | none => simp [res, e] at h
    | some o =>
      cases o with
      | lst us =>
        simp only [res, e, Option.some.injEq] at h
        subst h
        exact ⟨fun g => g a = some (.lst us), fun g' s => s _ _ e, fun R q => by simpa only [iLst, qVar, hd, e] using q⟩
      | _ => simp [res, e] at h
  | _ => simp [res] at h
theorem res_lst {g g' : G} {d : T} {ts : List T} (h : lsT g d = some ts) (s : Sub g g') : res g' d = .lst ts := by
  unfold lsT at h
  cases d with
  | lst us => simp only [res, Option.some.injEq] at h; subst h; rfl
  | ref a =>
    cases e : g a with
    | none => simp [res, e] at h
    | some o =>
      cases o with
      | lst us => simp only [res, e, Option.some.injEq] at h; subst h; simp only [res, s _ _ e]
      | _ => simp [res, e] at h
  | _ => simp [res] at h
/-- the items of ts that are not among us -/
def lessT (ts us : List T) : List T := ts.filterMap fun t => if us.any (fun u => eqb u t) then none else some t
theorem pick {i j : Nat} {δ : TSt} {g : G} {Q : K1} {d c : T} {fs cs : List T} (hz : δ.length = 3) (hi : i < 2) (hj : j < 2) (hd : sl δ i = some d) (hc : sl δ j = some c) (h1 : lsT g d = some fs) (h2 : lsT g c = some cs) (hf : ∀ t ∈ fs, Th 6 t ∧ isD t = true) (hcs : isDs 38 cs = true) (hl : fs.length ≤ sizeLine)
    (q : Q (.lst (lessT fs cs)) g) : qFrz (qLc [2] (iLst (qVar i)) (gtName 2) (qTB (qOp cNotIn (qVar 2) (qVar j))) (qVar 2)) δ g Q := by
  obtain ⟨kp, hk, hw⟩ := iLst_at hd h1
  refine lcF (F := fun t => if cs.any (fun u => eqb u t) then none else some t) hw hk (fun t ht g' K hs hq => ?_) hl q
  obtain ⟨hth, hdt⟩ := hf t ht
  have e1 : sl ((wipeT δ [2]).set 2 (some t)) 2 = some t := by
    match δ, hz with
    | [a, b, e], _ => rfl
  have e2 : sl ((wipeT δ [2]).set 2 (some t)) j = some c := by
    match δ, hz, j, hj with
    | [a, b, e], _, 0, _ => exact hc
    | [a, b, e], _, 1, _ => exact hc
  simp only [gtName, qTB, qOp, qVar, e1, e2, cNotIn, res_lst h2 hs, resTh g' hth, cInV]
  refine ⟨hdt, hcs, ?_⟩
  simp only [isB]
  cases ha : (cs.any fun u => eqb u t) with
  | true => simpa [ha] using hq
  | false => simpa [ha, e1] using hq
def sp_changed : TSp := fun ds g Q _ => ∃ d c fs cs, ds = [d, c] ∧ lsT g d = some fs ∧ lsT g c = some cs ∧ (∀ t ∈ fs, Th 6 t ∧ isD t = true) ∧ (∀ t ∈ cs, Th 6 t ∧ isD t = true) ∧ isDs 38 fs = true ∧ isDs 38 cs = true ∧ fs.length + cs.length ≤ sizeLine ∧ Q (.lst (lessT fs cs ++ lessT cs fs)) g
theorem frz_op {r : Q2} {ta tb : QE} {δ : TSt} {g : G} {Q : K1} (h : ta δ g fun x g1 => tb δ g1 fun y g2 => qFrz (fun _ g K => r x y g K) δ g2 Q) : qFrz (qOp r ta tb) δ g Q := h
theorem less_len (ts us : List T) : (lessT ts us).length ≤ ts.length := List.length_filterMap_le _ _
theorem p_changed (ds : List T) (g : G) (Q : K1) (h : sp_changed ds g Q noX) : t_changed { nx := fun _ g' => Q .non g', rt := Q } (TL.startT N_changed ds) g := by
  obtain ⟨d, c, fs, cs, rfl, h1, h2, f1, f2, i1, i2, hl, q⟩ := h
  have l1 := less_len fs cs
  have l2 := less_len cs fs
  show qFrz _ [some d, some c, none] g Q
  refine frz_op ?_
  refine pick (i := 0) (j := 1) (δ := [some d, some c, none]) rfl (by omega) (by omega) rfl rfl h1 h2 f1 i2 (by omega) ?_
  refine pick (i := 1) (j := 0) (δ := [some d, some c, none]) rfl (by omega) (by omega) rfl rfl h2 h1 f2 i1 (by omega) ?_
  simp only [qFrz, aAdd, res]
  refine ⟨by omega, fun p hp => ?_⟩
  simp only [gput_same]
  rw [gdel_put hp]
  exact q
end K82
set_option Elab.async false
set_option linter.all false
set_option maxRecDepth 100000
set_option maxHeartbeats 4000000
namespace K82
open PySem PySem.Spec L2 PyProof.Rows TL
/-! ### things as data, as keys, in their order -/
theorem res_tup (g : G) (ts : List T) : res g (.tup ts) = .tup ts := rfl
theorem res_lst' (g : G) (ts : List T) : res g (.lst ts) = .lst ts := rfl
theorem res_int (g : G) (i : Int) : res g (.int i) = .int i := rfl
theorem res_str (g : G) (x : PySem.Str) : res g (.str x) = .str x := rfl
theorem res_bl (g : G) (b : Bool) : res g (.bl b) = .bl b := rfl
theorem res_non (g : G) : res g .non = .non := rfl
theorem res_ty (g : G) (n : String) : res g (.ty n) = .ty n := rfl
theorem res_dct (g : G) (kvs : List (T × T)) : res g (.dct kvs) = .dct kvs := rfl
theorem res_refL {g : G} {a : Addr} {ts : List T} (h : g a = some (.lst ts)) : res g (.ref a) = .lst ts := by simp only [res, h]
theorem res_refD {g : G} {a : Addr} {ts : List (T × T)} (h : g a = some (.dct ts)) : res g (.ref a) = .dct ts := by simp only [res, h]
theorem wsigns_small : ∀ c ∈ wsigns.cps.toList, c < 128 := by decide
theorem okW_ok {x : PySem.Str} (w : okW x) : PyData.strOk x = true := by
  have h : ∀ c ∈ x.cps.toList, c < 0x110000 := fun c hc => Nat.lt_trans (wsigns_small c (w.all c hc)) (by omega)
  unfold PyData.strOk
  rw [Array.all_eq_true']
  intro c hc
  exact decide_eq_true (h c (Array.mem_toList_iff.mpr hc))
theorem isDs_of {n : Nat} : ∀ {ts : List T}, (∀ t ∈ ts, isDn n t = true) → isDs n ts = true
  | [], _ => rfl
  | t :: ts, h => by
    simp only [isDs, Bool.and_eq_true]
    exact ⟨h t (List.mem_cons_self ..), isDs_of fun u hu => h u (List.mem_cons_of_mem _ hu)⟩
theorem nbs_of : ∀ {ts : List T}, (∀ t ∈ ts, nb t = true) → nbs ts = true
  | [], _ => rfl
  | t :: ts, h => by
    simp only [nbs, Bool.and_eq_true]
    exact ⟨h t (List.mem_cons_self ..), nbs_of fun u hu => h u (List.mem_cons_of_mem _ hu)⟩
theorem isDn_str {n : Nat} {x : PySem.Str} (w : okW x) : isDn n (.str x) = true := by
  cases n <;> exact okW_ok w
theorem th_isDn : ∀ (n m : Nat) (t : T), Th n t → n + 1 ≤ m → isDn m t = true := by
  intro n
  induction n with
  | zero =>
    intro m t w hm
    rcases th_or w with ⟨i, rfl, _⟩ | ⟨x, r, rfl, wx, hl, rfl | ⟨k, e, _⟩⟩
    · cases m <;> rfl
    · obtain ⟨k, rfl⟩ : ∃ k, m = k + 1 := ⟨m - 1, by omega⟩
      simp only [isDn, isDs, okW_ok wx, Bool.and_self]
    · omega
  | succ n ih =>
    intro m t w hm
    rcases th_or w with ⟨i, rfl, _⟩ | ⟨x, r, rfl, wx, hl, hr⟩
    · cases m <;> rfl
    · obtain ⟨k, rfl⟩ : ∃ k, m = k + 1 := ⟨m - 1, by omega⟩
      simp only [isDn, isDs, okW_ok wx, Bool.true_and]
      rcases hr with rfl | ⟨j, e, ha⟩
      · rfl
      · obtain rfl : n = j := by omega
        exact isDs_of fun t ht => ih k t (ha t ht) (by omega)
theorem th_nb : ∀ (n : Nat) (t : T), Th n t → nb t = true := by
  intro n
  induction n with
  | zero =>
    intro t w
    rcases th_or w with ⟨i, rfl, _⟩ | ⟨x, r, rfl, wx, hl, rfl | ⟨k, e, _⟩⟩
    · rfl
    · rfl
    · omega
  | succ n ih =>
    intro t w
    rcases th_or w with ⟨i, rfl, _⟩ | ⟨x, r, rfl, wx, hl, hr⟩
    · rfl
    · simp only [nb, nbs, Bool.true_and]
      rcases hr with rfl | ⟨j, e, ha⟩
      · rfl
      · obtain rfl : n = j := by omega
        exact nbs_of fun t ht => ih _ (ha t ht)
theorem th_eqb {n m : Nat} {t u : T} (h1 : Th n t) (h2 : Th m u) : eqb t u = decide (t = u) := eqb_nb _ _ (th_nb _ _ h1) (th_nb _ _ h2)
theorem th_isD {n : Nat} {t : T} (h : Th n t) (hn : n ≤ 6) : isD t = true := th_isDn _ _ _ h (by omega)
theorem nks_of {d : Nat} : ∀ {ts : List T}, (∀ t ∈ ts, ∃ k, nkOf t = some k ∧ k.depth ≤ d) → ∃ ks, nkOf.nks ts = some ks ∧ NestedKey.depthAll ks ≤ d
  | [], _ => ⟨[], rfl, by simp [NestedKey.depthAll]⟩
  | t :: ts, h => by
    obtain ⟨k, e, hd⟩ := h t (List.mem_cons_self ..)
    obtain ⟨ks, es, hds⟩ := nks_of (ts := ts) fun u hu => h u (List.mem_cons_of_mem _ hu)
    refine ⟨k :: ks, by simp only [nkOf.nks, e, es], ?_⟩
    simp only [NestedKey.depthAll]
    omega
theorem th_nk : ∀ (n : Nat) (t : T), Th n t → ∃ k, nkOf t = some k ∧ k.depth ≤ n + 1 := by
  intro n
  induction n with
  | zero =>
    intro t w
    rcases th_or w with ⟨i, rfl, _⟩ | ⟨x, r, rfl, wx, hl, rfl | ⟨k, e, _⟩⟩
    · exact ⟨.num i, rfl, by simp [NestedKey.depth]⟩
    · exact ⟨.tup [.text x], rfl, by simp [NestedKey.depth, NestedKey.depthAll]⟩
    · omega
  | succ n ih =>
    intro t w
    rcases th_or w with ⟨i, rfl, _⟩ | ⟨x, r, rfl, wx, hl, hr⟩
    · exact ⟨.num i, rfl, by simp [NestedKey.depth]⟩
    · obtain ⟨ks, e, hd⟩ : ∃ ks, nkOf.nks r = some ks ∧ NestedKey.depthAll ks ≤ n + 1 := by
        rcases hr with rfl | ⟨j, e, ha⟩
        · exact ⟨[], rfl, by simp [NestedKey.depthAll]⟩
        · obtain rfl : n = j := by omega
          exact nks_of fun t ht => ih _ (ha t ht)
      refine ⟨.tup (.text x :: ks), by simp only [nkOf, nkOf.nks, e, Option.map_some], ?_⟩
      simp only [NestedKey.depth, NestedKey.depthAll]
      omega
/-- facts -/
structure Fc (t : T) : Prop where
  tup : ∃ ts, t = .tup ts
  th : Th 6 t
theorem Fc.key {t : T} (h : Fc t) : tupK t = true := by
  obtain ⟨ts, rfl⟩ := h.tup
  obtain ⟨k, e, hd⟩ := th_nk _ _ h.th
  simp only [tupK, e]
  exact decide_eq_true (by omega)
theorem Fc.isD {t : T} (h : Fc t) : TL.isD t = true := th_isD h.th (by omega)
theorem Fc.eqb {t u : T} (h : Fc t) (h2 : Fc u) : TL.eqb t u = decide (t = u) := th_eqb h.th h2.th
theorem fcs_isDs {ts : List T} (h : ∀ t ∈ ts, Fc t) : isDs 38 ts = true := isDs_of fun t ht => th_isDn _ _ _ (h t ht).th (by omega)
/-- what is sorted by -/
theorem rks_map : ∀ r : List T, rks r = r.map rk
  | [] => rfl
  | t :: r => by simp only [rks, List.map_cons, rks_map r]
theorem rk_nb : ∀ (n : Nat) (t : T), Th n t → nb (rk t) = true := by
  intro n
  induction n with
  | zero =>
    intro t w
    rcases th_or w with ⟨i, rfl, _⟩ | ⟨x, r, rfl, wx, hl, rfl | ⟨k, e, _⟩⟩
    · rfl
    · rfl
    · omega
  | succ n ih =>
    intro t w
    rcases th_or w with ⟨i, rfl, _⟩ | ⟨x, r, rfl, wx, hl, hr⟩
    · rfl
    · simp only [rk, rkc, nb, nbs, Bool.true_and, Bool.and_true]
      rcases hr with rfl | ⟨j, e, ha⟩
      · rfl
      · obtain rfl : n = j := by omega
        rw [rks_map]
        refine nbs_of fun t ht => ?_
        obtain ⟨u, hu, rfl⟩ := List.mem_map.mp ht
        exact ih _ (ha u hu)
theorem rk_isDn : ∀ (n m : Nat) (t : T), Th n t → 2 * n + 2 ≤ m → isDn m (rk t) = true := by
  intro n
  induction n with
  | zero =>
    intro m t w hm
    obtain ⟨k, rfl⟩ : ∃ k, m = k + 2 := ⟨m - 2, by omega⟩
    rcases th_or w with ⟨i, rfl, _⟩ | ⟨x, r, rfl, wx, hl, rfl | ⟨k, e, _⟩⟩
    · rfl
    · simp only [rk, rkc, rks, isDn, isDs, okW_ok wx, Bool.and_self, Bool.true_and]
    · omega
  | succ n ih =>
    intro m t w hm
    obtain ⟨k, rfl⟩ : ∃ k, m = k + 2 := ⟨m - 2, by omega⟩
    rcases th_or w with ⟨i, rfl, _⟩ | ⟨x, r, rfl, wx, hl, hr⟩
    · rfl
    · simp only [rk, rkc, isDn, isDs, okW_ok wx, Bool.true_and, Bool.and_true]
      rcases hr with rfl | ⟨j, e, ha⟩
      · rfl
      · obtain rfl : n = j := by omega
        rw [rks_map]
        refine isDs_of fun t ht => ?_
        obtain ⟨u, hu, rfl⟩ := List.mem_map.mp ht
        exact ih _ _ (ha u hu) (by omega)
theorem lex_rks : ∀ (r s : List T), (∀ t ∈ r, ∀ u ∈ s, ∃ c, ltO (rk t) (rk u) = some c) → ∃ c, lexO (rks r) (rks s) = some c
  | [], [], _ => ⟨_, rfl⟩
  | [], _ :: _, _ => ⟨_, rfl⟩
  | _ :: _, [], _ => ⟨_, rfl⟩
  | t :: r, u :: s, h => by
    simp only [rks, lexO]
    split
    · exact lex_rks r s fun t' ht u' hu => h t' (List.mem_cons_of_mem _ ht) u' (List.mem_cons_of_mem _ hu)
    · exact h t (List.mem_cons_self ..) u (List.mem_cons_self ..)
theorem ex_ite {c : Prop} [Decidable c] {α : Type} {a b : Option α} (h1 : c → ∃ x, a = some x) (h2 : ¬ c → ∃ x, b = some x) : ∃ x, (if c then a else b) = some x := by
  by_cases h : c
  · rw [if_pos h]; exact h1 h
  · rw [if_neg h]; exact h2 h
theorem rk_cmp : ∀ (n m : Nat) (t u : T), Th n t → Th m u → ∃ c, ltO (rk t) (rk u) = some c := by
  intro n
  induction n with
  | zero =>
    intro m t u w w2
    rcases th_or w with ⟨i, rfl, _⟩ | ⟨x, r, rfl, wx, hl, rfl | ⟨k, e, _⟩⟩
    · rcases th_or w2 with ⟨j, rfl, _⟩ | ⟨y, s, rfl, wy, hl2, hs⟩
      · simp only [rk, ltO, lexO, TL.eqb, beq_self_eq_true, if_true]
        exact ex_ite (fun _ => ⟨_, rfl⟩) fun _ => ⟨_, rfl⟩
      · exact ⟨_, rfl⟩
    · rcases th_or w2 with ⟨j, rfl, _⟩ | ⟨y, s, rfl, wy, hl2, hs⟩
      · exact ⟨_, rfl⟩
      · simp only [rk, rkc, rks, ltO, lexO, TL.eqb, beq_self_eq_true, if_true]
        refine ex_ite (fun _ => ex_ite (fun _ => ex_ite (fun _ => ⟨_, rfl⟩) fun _ => ?_) fun _ => ⟨_, rfl⟩) fun _ => ⟨_, rfl⟩
        cases hq : rks s <;> exact ⟨_, rfl⟩
    · omega
  | succ n ih =>
    intro m t u w w2
    rcases th_or w with ⟨i, rfl, _⟩ | ⟨x, r, rfl, wx, hl, hr⟩
    · rcases th_or w2 with ⟨j, rfl, _⟩ | ⟨y, s, rfl, wy, hl2, hs⟩
      · simp only [rk, ltO, lexO, TL.eqb, beq_self_eq_true, if_true]
        exact ex_ite (fun _ => ⟨_, rfl⟩) fun _ => ⟨_, rfl⟩
      · exact ⟨_, rfl⟩
    · rcases th_or w2 with ⟨j, rfl, _⟩ | ⟨y, s, rfl, wy, hl2, hs⟩
      · exact ⟨_, rfl⟩
      · simp only [rk, rkc, ltO, lexO, TL.eqb, beq_self_eq_true, if_true]
        have go : ∃ c, lexO (rks r) (rks s) = some c := lex_rks r s fun t ht u hu => by
          rcases hr with rfl | ⟨j, e, ha⟩
          · cases ht
          · obtain rfl : n = j := by omega
            rcases hs with rfl | ⟨j, e, hb⟩
            · cases hu
            · exact ih _ _ _ (ha t ht) (hb u hu)
        exact ex_ite (fun _ => ex_ite (fun _ => ex_ite (fun _ => ⟨_, rfl⟩) fun _ => go) fun _ => ⟨_, rfl⟩) fun _ => ⟨_, rfl⟩
theorem keysRk {ts : List T} (h : ∀ t ∈ ts, Th 6 t) : KeysOk 14 rk ts where
  data := fun t ht => ⟨rk_isDn _ _ _ (h t ht) (by omega), rk_nb _ _ (h t ht)⟩
  cmp := fun _ t ht u hu => rk_cmp _ _ _ _ (h t ht) (h u hu)
  kind := fun _ t ht => by
    rcases th_or (h t ht) with ⟨i, rfl, _⟩ | ⟨x, r, rfl, wx, hl, hr⟩ <;> exact ⟨_, _, rfl⟩
end K82
set_option Elab.async false
set_option linter.all false
set_option maxRecDepth 100000
set_option maxHeartbeats 4000000
namespace K82
open PySem PySem.Spec L2 PyProof.Rows TL
theorem tl_all {x : PySem.Str} {r : List T} : cutT (T.str x :: r) (some 1) none = r := by simp [cutT, HT.sIx]
theorem p_rank (n : Nat) (ds : List T) (g : G) (Q : K1) (h : sp_rank (n + 1) ds g Q noX) : t_rank (sp_rank n) { nx := fun _ g' => Q .non g', rt := Q } (TL.startT N_rank ds) g := by
  obtain ⟨_, ⟨t, d, rfl, w, hn⟩, q⟩ := h
  rcases th_or w with ⟨i, rfl, _⟩ | ⟨x, r, rfl, wx, hl, hr⟩
  · unfold t_rank
    simp only [qFrz_k, frzK_lst, frzK_dct, frzK_tup, qSeq, qIfS, qOr, qNot, qAnd, qTB, qCB, qCons, qNil, qTup, qLstF, qVar, qC, sl, bIsi, c2, c1, m0, m1, m2, res_tup, res_lst', res_int, res_str, res_bl, res_non, res_dct, res_ty, tyN, isStr, TL.isInt, TL.isTup, TL.isBool, TL.isLst, isN, isB, qIf, qChain, cLe, cLt, cGt, cGe, cEq, cNe, cEqV, cIn, cNotIn, cIsN, cNotN, n2, bLen, lenV, bInt, bTup, qNext, qRet, qRetN, qDrop, qAndV, qOrV, qNotV, qOp, aIx, ixV, idx, aSub, aMul, aMod, aFdiv, uNeg, riAdd, riSub, qCall, qAsg, gtName, gtTup, gtCons, gtNil, iLst, iTp, qFor, TL.startT, List.replicate, List.map_cons, List.map_nil, List.length_cons, List.length_nil, List.cons_append, List.nil_append, List.append_nil, List.set_cons_succ, List.set_cons_zero, List.getElem?_cons_zero, List.getElem?_cons_succ, List.getD_cons_zero, List.getD_cons_succ, List.headD_cons, Option.isSome_some, Bool.not_true, Bool.not_false, Bool.false_eq_true, if_true, if_false, true_and, and_true, decide_eq_true_eq, decide_true, decide_false, Nat.zero_add, reduceIte, reduceCtorEq]
    exact ⟨by rw [sizeLine_eq]; omega, q⟩
  · unfold t_rank
    simp only [qFrz_k, frzK_lst, frzK_dct, frzK_tup, qSeq, qIfS, qOr, qNot, qAnd, qTB, qCB, qCons, qNil, qTup, qLstF, qVar, qC, sl, bIsi, c2, c1, m0, m1, m2, res_tup, res_lst', res_int, res_str, res_bl, res_non, res_dct, res_ty, tyN, isStr, TL.isInt, TL.isTup, TL.isBool, TL.isLst, isN, isB, qIf, qChain, cLe, cLt, cGt, cGe, cEq, cNe, cEqV, cIn, cNotIn, cIsN, cNotN, n2, bLen, lenV, bInt, bTup, qNext, qRet, qRetN, qDrop, qAndV, qOrV, qNotV, qOp, aIx, ixV, idx, aSub, aMul, aMod, aFdiv, uNeg, riAdd, riSub, qCall, qAsg, gtName, gtTup, gtCons, gtNil, iLst, iTp, qFor, TL.startT, List.replicate, List.map_cons, List.map_nil, List.length_cons, List.length_nil, List.cons_append, List.nil_append, List.append_nil, List.set_cons_succ, List.set_cons_zero, List.getElem?_cons_zero, List.getElem?_cons_succ, List.getD_cons_zero, List.getD_cons_succ, List.headD_cons, Option.isSome_some, Bool.not_true, Bool.not_false, Bool.false_eq_true, if_true, if_false, true_and, and_true, decide_eq_true_eq, decide_true, decide_false, Nat.zero_add, reduceIte, reduceCtorEq]
    refine lcK (F := fun t => some (rk t)) (ts := r) (kp := yes) (fun R h => ?_) (fun _ _ => trivial) (fun t ht g' K hs hk => ?_) (by rw [sizeLine_eq]; omega) ?_
    · simp only [iTp, qSl, qPart, qNoPart, qVar, qC, sl, slV, res, tl_all]
      exact ⟨by simp [HT.sIx], h⟩
    · simp only [gtName, qYes, qCall, qCons, qNil, qVar, wipeT, sl, List.set_cons_succ, List.set_cons_zero, List.replicate, if_true]
      rcases hr with rfl | ⟨m, rfl, ha⟩
      · cases ht
      · exact ⟨rfl, ⟨t, m, rfl, ha t ht, by omega⟩, hk⟩
    · simp only [qFrz_k, frzK_lst, frzK_dct, frzK_tup, qSeq, qIfS, qOr, qNot, qAnd, qTB, qCB, qCons, qNil, qTup, qLstF, qVar, qC, sl, bIsi, c2, c1, m0, m1, m2, res_tup, res_lst', res_int, res_str, res_bl, res_non, res_dct, res_ty, tyN, isStr, TL.isInt, TL.isTup, TL.isBool, TL.isLst, isN, isB, qIf, qChain, cLe, cLt, cGt, cGe, cEq, cNe, cEqV, cIn, cNotIn, cIsN, cNotN, n2, bLen, lenV, bInt, bTup, qNext, qRet, qRetN, qDrop, qAndV, qOrV, qNotV, qOp, aIx, ixV, idx, aSub, aMul, aMod, aFdiv, uNeg, riAdd, riSub, qCall, qAsg, gtName, gtTup, gtCons, gtNil, iLst, iTp, qFor, TL.startT, List.replicate, List.map_cons, List.map_nil, List.length_cons, List.length_nil, List.cons_append, List.nil_append, List.append_nil, List.set_cons_succ, List.set_cons_zero, List.getElem?_cons_zero, List.getElem?_cons_succ, List.getD_cons_zero, List.getD_cons_succ, List.headD_cons, Option.isSome_some, Bool.not_true, Bool.not_false, Bool.false_eq_true, if_true, if_false, true_and, and_true, decide_eq_true_eq, decide_true, decide_false, Nat.zero_add, reduceIte, reduceCtorEq]
      refine ⟨by rw [sizeLine_eq]; simp, ?_⟩
      simp only [List.headD_cons, rk, rkc, rks_map] at q
      rw [List.filterMap_eq_map']
      exact q
theorem p_order_key (n : Nat) (ds : List T) (g : G) (Q : K1) (h : sp_rank (n + 1) ds g Q noX) : t_order_key (sp_rank n) { nx := fun _ g' => Q .non g', rt := Q } (TL.startT N_order_key ds) g := p_rank n ds g Q h
/-! ### ordered -/
def mk1 (kvs : List (T × T)) : List T := kvs.map (·.1)
theorem putT_keys {kvs : List (T × T)} {k v x : T} : x ∈ mk1 (putT kvs k v) ↔ x ∈ mk1 kvs ∨ x = k := by
  unfold putT mk1
  split
  · rename_i h
    rw [List.map_map]
    have e : ((fun p : T × T => p.1) ∘ fun p : T × T => if p.1 = k then (p.1, v) else p) = fun p => p.1 := by
      funext p
      simp only [Function.comp]
      split <;> rfl
    rw [e]
    refine ⟨Or.inl, fun z => z.elim id fun z => ?_⟩
    subst z
    simp only [look, Option.isSome_map] at h
    obtain ⟨p, hp⟩ := Option.isSome_iff_exists.mp h
    have h1 := List.find?_some hp
    have h2 := List.mem_of_find?_eq_some hp
    exact List.mem_map.mpr ⟨p, h2, of_decide_eq_true h1⟩
  · simp
theorem look_mem {kvs : List (T × T)} {k : T} : (look kvs k).isSome = true ↔ k ∈ mk1 kvs := by
  unfold look mk1
  rw [Option.isSome_map, List.find?_isSome]
  simp only [List.mem_map, decide_eq_true_eq, Prod.exists, exists_and_right]
theorem look_none {kvs : List (T × T)} {k : T} (h : k ∉ mk1 kvs) : look kvs k = none := by
  cases e : look kvs k with
  | none => rfl
  | some v => exact absurd (look_mem.mp (by rw [e]; rfl)) h
theorem putT_nodup {kvs : List (T × T)} {k v : T} (h : (mk1 kvs).Nodup) : (mk1 (putT kvs k v)).Nodup := by
  unfold putT
  split
  · have e : mk1 (kvs.map fun p => if p.1 = k then (p.1, v) else p) = mk1 kvs := by
      unfold mk1
      rw [List.map_map]
      congr 1
      funext p
      simp only [Function.comp]
      split <;> rfl
    rw [e]
    exact h
  · rename_i hk
    have hn : k ∉ mk1 kvs := fun z => hk (look_mem.mpr z)
    unfold mk1 at h ⊢
    rw [List.map_append, List.nodup_append]
    refine ⟨h, by simp, fun a ha b hb => ?_⟩
    simp at hb
    subst hb
    intro z
    subst z
    exact hn ha
theorem once_mem : ∀ {ts : List T} {kvs : List (T × T)} {x : T}, x ∈ mk1 (onceT ts kvs) ↔ x ∈ ts ∨ x ∈ mk1 kvs
  | [], kvs, x => by simp [onceT]
  | t :: ts, kvs, x => by
    show x ∈ mk1 (onceT ts (putT kvs t (.bl true))) ↔ _
    rw [once_mem, putT_keys]
    simp only [List.mem_cons]
    constructor
    · rintro (h | h | h)
      · exact .inl (.inr h)
      · exact .inr h
      · exact .inl (.inl h)
    · rintro ((h | h) | h)
      · exact .inr (.inr h)
      · exact .inl h
      · exact .inr (.inl h)
theorem once_nodup : ∀ {ts : List T} {kvs : List (T × T)}, (mk1 kvs).Nodup → (mk1 (onceT ts kvs)).Nodup
  | [], _, h => h
  | t :: ts, kvs, h => once_nodup (ts := ts) (putT_nodup h)
theorem once_len : ∀ {ts : List T} {kvs : List (T × T)}, (onceT ts kvs).length ≤ ts.length + kvs.length
  | [], _ => by simp [onceT]
  | t :: ts, kvs => by
    have h1 := once_len (ts := ts) (kvs := putT kvs t (.bl true))
    have h2 := putT_len kvs t (.bl true)
    show (onceT ts (putT kvs t (.bl true))).length ≤ _
    simp only [List.length_cons]
    omega
theorem once_tup : ∀ {ts : List T} {kvs : List (T × T)}, (∀ t ∈ ts, tupK t = true) → (kvs.all fun p => tupK p.1) = true → ((onceT ts kvs).all fun p => tupK p.1) = true
  | [], _, _, h => h
  | t :: ts, kvs, ht, h => once_tup (ts := ts) (fun u hu => ht u (List.mem_cons_of_mem _ hu)) (putT_tup (ht t (List.mem_cons_self ..)) h)
theorem all_tup_iff {kvs : List (T × T)} : (kvs.all fun p => tupK p.1) = true ↔ ∀ x ∈ mk1 kvs, tupK x = true := by
  simp [mk1, List.all_eq_true]
/-- what is sorted out: in order, each once -/
def Sorted (ts out : List T) : Prop := out.Nodup ∧ (∀ x, x ∈ out ↔ x ∈ ts) ∧ out.length ≤ ts.length ∧ out.Pairwise fun x y => ltB (rk y) (rk x) = false
def sp_ordered : TSp := fun ds g Q _ => ∃ d ts, ds = [d] ∧ (d = .lst ts ∨ ∃ kvs, d = .dct kvs ∧ ts = mk1 kvs) ∧ (∀ t ∈ ts, Fc t) ∧ ts.length ≤ sizeLine ∧ ∀ out, Sorted ts out → Q (.lst out) g
theorem p_ordered (ds : List T) (g : G) (Q : K1) (h : sp_ordered ds g Q noX) : t_ordered (sp_rank 7) { nx := fun _ g' => Q .non g', rt := Q } (TL.startT N_ordered ds) g := by
  obtain ⟨d, ts, rfl, hd, hf, hl, q⟩ := h
  unfold t_ordered
  simp only [qFrz_k, frzK_lst, frzK_dct, frzK_tup, qSeq, qIfS, qOr, qNot, qAnd, qTB, qCB, qCons, qNil, qTup, qLstF, qVar, qC, sl, bIsi, c2, c1, m0, m1, m2, res_tup, res_lst', res_int, res_str, res_bl, res_non, res_dct, res_ty, tyN, isStr, TL.isInt, TL.isTup, TL.isBool, TL.isLst, isN, isB, qIf, qChain, cLe, cLt, cGt, cGe, cEq, cNe, cEqV, cIn, cNotIn, cIsN, cNotN, n2, bLen, lenV, bInt, bTup, qNext, qRet, qRetN, qDrop, qAndV, qOrV, qNotV, qOp, aIx, ixV, idx, aSub, aMul, aMod, aFdiv, uNeg, riAdd, riSub, qCall, qAsg, gtName, gtTup, gtCons, gtNil, iLst, iTp, qFor, TL.startT, List.replicate, List.map_cons, List.map_nil, List.length_cons, List.length_nil, List.cons_append, List.nil_append, List.append_nil, List.set_cons_succ, List.set_cons_zero, List.getElem?_cons_zero, List.getElem?_cons_succ, List.getD_cons_zero, List.getD_cons_succ, List.headD_cons, Option.isSome_some, Bool.not_true, Bool.not_false, Bool.false_eq_true, if_true, if_false, true_and, and_true, decide_eq_true_eq, decide_true, decide_false, Nat.zero_add, reduceIte, reduceCtorEq, qDict0]
  intro p hp
  have key : wFor yes (gtName 2) (qAsg (qC (T.bl true)) (gtSub (qVar 1) (qVar 2))) { nx := qFz 1 (qRet (qFrz (qSortD (sp_rank 7) (qVar 1)))) { nx := fun _ g' => Q .non g', rt := Q }, rt := Q } ts [some d, some (.ref p), none] (gput g p (.dct [])) := by
    refine once_loop (fun _ => trivial) ts [] _ (fun t ht => (hf t ht).key) rfl (by simpa using hl) rfl rfl fun δ' hz hd => ?_
    have e : ∀ x, x ∈ mk1 (onceT ts []) ↔ x ∈ ts := fun x => by rw [once_mem]; simp [mk1]
    have hm : (mk1 (onceT ts [])).length = (onceT ts []).length := by simp [mk1]
    have hln := once_len (ts := ts) (kvs := [])
    simp only [List.length_nil, Nat.add_zero] at hln
    simp only [qFz, hd, gput_same]
    rw [gdel_put hp]
    obtain ⟨a, b, c, rfl⟩ : ∃ a b c, δ' = [a, b, c] := by
      match δ', hz with
      | [a, b, c], _ => exact ⟨a, b, c, rfl⟩
    simp only [qFrz_k, frzK_lst, frzK_dct, frzK_tup, qSeq, qIfS, qOr, qNot, qAnd, qTB, qCB, qCons, qNil, qTup, qLstF, qVar, qC, sl, bIsi, c2, c1, m0, m1, m2, res_tup, res_lst', res_int, res_str, res_bl, res_non, res_dct, res_ty, tyN, isStr, TL.isInt, TL.isTup, TL.isBool, TL.isLst, isN, isB, qIf, qChain, cLe, cLt, cGt, cGe, cEq, cNe, cEqV, cIn, cNotIn, cIsN, cNotN, n2, bLen, lenV, bInt, bTup, qNext, qRet, qRetN, qDrop, qAndV, qOrV, qNotV, qOp, aIx, ixV, idx, aSub, aMul, aMod, aFdiv, uNeg, riAdd, riSub, qCall, qAsg, gtName, gtTup, gtCons, gtNil, iLst, iTp, qFor, TL.startT, List.replicate, List.map_cons, List.map_nil, List.length_cons, List.length_nil, List.cons_append, List.nil_append, List.append_nil, List.set_cons_succ, List.set_cons_zero, List.getElem?_cons_zero, List.getElem?_cons_succ, List.getD_cons_zero, List.getD_cons_succ, List.headD_cons, Option.isSome_some, Bool.not_true, Bool.not_false, Bool.false_eq_true, if_true, if_false, true_and, and_true, decide_eq_true_eq, decide_true, decide_false, Nat.zero_add, reduceIte, reduceCtorEq, qSortD]
    refine ⟨mk1 (onceT ts []), rk, 14, rfl, by omega, fun t ht Q' hq => ?_, keysRk fun t ht => (hf t ((e t).mp ht)).th, by omega, fun ts' p2 hp2 hs hn => ?_⟩
    · exact ⟨rfl, ⟨t, 6, rfl, (hf t ((e t).mp ht)).th, by omega⟩, hq⟩
    · rw [frzK_putL hn]
      refine q _ ⟨hp2.nodup_iff.mpr (once_nodup (by simp [mk1])), fun x => by rw [hp2.mem_iff, e], by rw [hp2.length_eq]; omega, hs⟩
  rcases hd with rfl | ⟨kvs, rfl, rfl⟩
  · exact .inl key
  · exact .inr key
end K82
set_option Elab.async false
set_option linter.all false
set_option maxRecDepth 100000
set_option maxHeartbeats 4000000
namespace K82
open PySem PySem.Spec L2 PyProof.Rows TL
theorem part_tl {w : PySem.Str} {a : T} : cutT [T.str w, a] (some 1) none = [a] := by simp [cutT, HT.sIx]
def sp_nsorted : TSp := fun ds g Q _ => ∃ ps, ds = [.tup ps] ∧ (∀ p ∈ ps, ∃ w a, Pt p w a) ∧ Q (.lst []) g
theorem p_names_sorted (ds : List T) (g : G) (Q : K1) (h : sp_nsorted ds g Q noX) : t_names_sorted (sp_names 7) { nx := fun _ g' => Q .non g', rt := Q } (TL.startT N_names_sorted ds) g := by
  obtain ⟨ps, rfl, hp, q⟩ := h
  unfold t_names_sorted
  simp only [qFrz_k, frzK_lst, frzK_dct, frzK_tup, qSeq, qIfS, qOr, qNot, qAnd, qTB, qCB, qCons, qNil, qTup, qLstF, qVar, qC, sl, bIsi, c2, c1, m0, m1, m2, res_tup, res_lst', res_int, res_str, res_bl, res_non, res_dct, res_ty, tyN, isStr, TL.isInt, TL.isTup, TL.isBool, TL.isLst, isN, isB, qIf, qChain, cLe, cLt, cGt, cGe, cEq, cNe, cEqV, cIn, cNotIn, cIsN, cNotN, n2, bLen, lenV, bInt, bTup, qNext, qRet, qRetN, qDrop, qAndV, qOrV, qNotV, qOp, aIx, ixV, idx, aSub, aMul, aMod, aFdiv, uNeg, riAdd, riSub, qCall, qAsg, gtName, gtTup, gtCons, gtNil, iLst, iTp, qFor, TL.startT, List.replicate, List.map_cons, List.map_nil, List.length_cons, List.length_nil, List.cons_append, List.nil_append, List.append_nil, List.set_cons_succ, List.set_cons_zero, List.getElem?_cons_zero, List.getElem?_cons_succ, List.getD_cons_zero, List.getD_cons_succ, List.headD_cons, Option.isSome_some, Bool.not_true, Bool.not_false, Bool.false_eq_true, if_true, if_false, true_and, and_true, decide_eq_true_eq, decide_true, decide_false, Nat.zero_add, reduceIte, reduceCtorEq, qLst]
  refine ⟨Nat.zero_le _, fun p hn => ?_⟩
  try simp only [iTp, qFrz_k, frzK_lst, frzK_dct, frzK_tup, qSeq, qIfS, qOr, qNot, qAnd, qTB, qCB, qCons, qNil, qTup, qLstF, qVar, qC, sl, bIsi, c2, c1, m0, m1, m2, res_tup, res_lst', res_int, res_str, res_bl, res_non, res_dct, res_ty, tyN, isStr, TL.isInt, TL.isTup, TL.isBool, TL.isLst, isN, isB, qIf, qChain, cLe, cLt, cGt, cGe, cEq, cNe, cEqV, cIn, cNotIn, cIsN, cNotN, n2, bLen, lenV, bInt, bTup, qNext, qRet, qRetN, qDrop, qAndV, qOrV, qNotV, qOp, aIx, ixV, idx, aSub, aMul, aMod, aFdiv, uNeg, riAdd, riSub, qCall, qAsg, gtName, gtTup, gtCons, gtNil, iLst, iTp, qFor, TL.startT, List.replicate, List.map_cons, List.map_nil, List.length_cons, List.length_nil, List.cons_append, List.nil_append, List.append_nil, List.set_cons_succ, List.set_cons_zero, List.getElem?_cons_zero, List.getElem?_cons_succ, List.getD_cons_zero, List.getD_cons_succ, List.headD_cons, Option.isSome_some, Bool.not_true, Bool.not_false, Bool.false_eq_true, if_true, if_false, true_and, and_true, decide_eq_true_eq, decide_true, decide_false, Nat.zero_add, reduceIte, reduceCtorEq]
  refine wFor_I (fun us δ g' => g' = gput g p (.lst []) ∧ (∀ u ∈ us, u ∈ ps) ∧ ∃ a b, δ = [some (.tup ps), some (.ref p), a, b]) (fun _ _ _ _ => trivial) ?_ ?_ ps _ _ ⟨rfl, fun _ h => h, _, _, rfl⟩
  · rintro t us δ g' ⟨rfl, hm, a, b, rfl⟩ K hK
    obtain ⟨w, f, rfl, hw, hf, hk⟩ := hp t (hm t (List.mem_cons_self ..))
    simp only [qFrz_k, frzK_lst, frzK_dct, frzK_tup, qSeq, qIfS, qOr, qNot, qAnd, qTB, qCB, qCons, qNil, qTup, qLstF, qVar, qC, sl, bIsi, c2, c1, m0, m1, m2, res_tup, res_lst', res_int, res_str, res_bl, res_non, res_dct, res_ty, tyN, isStr, TL.isInt, TL.isTup, TL.isBool, TL.isLst, isN, isB, qIf, qChain, cLe, cLt, cGt, cGe, cEq, cNe, cEqV, cIn, cNotIn, cIsN, cNotN, n2, bLen, lenV, bInt, bTup, qNext, qRet, qRetN, qDrop, qAndV, qOrV, qNotV, qOp, aIx, ixV, idx, aSub, aMul, aMod, aFdiv, uNeg, riAdd, riSub, qCall, qAsg, gtName, gtTup, gtCons, gtNil, iLst, iTp, qFor, TL.startT, List.replicate, List.map_cons, List.map_nil, List.length_cons, List.length_nil, List.cons_append, List.nil_append, List.append_nil, List.set_cons_succ, List.set_cons_zero, List.getElem?_cons_zero, List.getElem?_cons_succ, List.getD_cons_zero, List.getD_cons_succ, List.headD_cons, Option.isSome_some, Bool.not_true, Bool.not_false, Bool.false_eq_true, if_true, if_false, true_and, and_true, decide_eq_true_eq, decide_true, decide_false, Nat.zero_add, reduceIte, reduceCtorEq, iTp, qSl, qPart, qNoPart, slV, res, part_tl, wFor]
    refine ⟨by simp [HT.sIx], trivial, ?_⟩
    simp only [qFrz_k, frzK_lst, frzK_dct, frzK_tup, qSeq, qIfS, qOr, qNot, qAnd, qTB, qCB, qCons, qNil, qTup, qLstF, qVar, qC, sl, bIsi, c2, c1, m0, m1, m2, res_tup, res_lst', res_int, res_str, res_bl, res_non, res_dct, res_ty, tyN, isStr, TL.isInt, TL.isTup, TL.isBool, TL.isLst, isN, isB, qIf, qChain, cLe, cLt, cGt, cGe, cEq, cNe, cEqV, cIn, cNotIn, cIsN, cNotN, n2, bLen, lenV, bInt, bTup, qNext, qRet, qRetN, qDrop, qAndV, qOrV, qNotV, qOp, aIx, ixV, idx, aSub, aMul, aMod, aFdiv, uNeg, riAdd, riSub, qCall, qAsg, gtName, gtTup, gtCons, gtNil, iLst, iTp, qFor, TL.startT, List.replicate, List.map_cons, List.map_nil, List.length_cons, List.length_nil, List.cons_append, List.nil_append, List.append_nil, List.set_cons_succ, List.set_cons_zero, List.getElem?_cons_zero, List.getElem?_cons_succ, List.getD_cons_zero, List.getD_cons_succ, List.headD_cons, Option.isSome_some, Bool.not_true, Bool.not_false, Bool.false_eq_true, if_true, if_false, true_and, and_true, decide_eq_true_eq, decide_true, decide_false, Nat.zero_add, reduceIte, reduceCtorEq, qBM]
    refine ⟨by simp [res, gput_same, TL.isTp], rfl, ⟨f, 6, rfl, hf, by omega⟩, ?_⟩
    simp only [mExtend, m1, gl, gput_same, res]
    refine ⟨by simp [sizeLine_eq], trivial, ?_⟩
    rw [gput_put]
    exact hK _ _ ⟨rfl, fun u hu => hm u (List.mem_cons_of_mem _ hu), _, _, rfl⟩
  · rintro δ g' ⟨rfl, hm, a, b, rfl⟩
    simp only [qFrz_k, frzK_lst, frzK_dct, frzK_tup, qSeq, qIfS, qOr, qNot, qAnd, qTB, qCB, qCons, qNil, qTup, qLstF, qVar, qC, sl, bIsi, c2, c1, m0, m1, m2, res_tup, res_lst', res_int, res_str, res_bl, res_non, res_dct, res_ty, tyN, isStr, TL.isInt, TL.isTup, TL.isBool, TL.isLst, isN, isB, qIf, qChain, cLe, cLt, cGt, cGe, cEq, cNe, cEqV, cIn, cNotIn, cIsN, cNotN, n2, bLen, lenV, bInt, bTup, qNext, qRet, qRetN, qDrop, qAndV, qOrV, qNotV, qOp, aIx, ixV, idx, aSub, aMul, aMod, aFdiv, uNeg, riAdd, riSub, qCall, qAsg, gtName, gtTup, gtCons, gtNil, iLst, iTp, qFor, TL.startT, List.replicate, List.map_cons, List.map_nil, List.length_cons, List.length_nil, List.cons_append, List.nil_append, List.append_nil, List.set_cons_succ, List.set_cons_zero, List.getElem?_cons_zero, List.getElem?_cons_succ, List.getD_cons_zero, List.getD_cons_succ, List.headD_cons, Option.isSome_some, Bool.not_true, Bool.not_false, Bool.false_eq_true, if_true, if_false, true_and, and_true, decide_eq_true_eq, decide_true, decide_false, Nat.zero_add, reduceIte, reduceCtorEq, qFz, gput_same, qSortSet, intsT]
    rw [gdel_put hn]
    refine ⟨by simp, fun out _ he => ?_⟩
    have : out = [] := List.eq_nil_iff_forall_not_mem.mpr fun k hk => by simpa using (he k).mp hk
    subst this
    exact q
/-! ### bindings -/
def stF (had : List T) (w : PySem.Str) (a : T) : Bool := if w = "is" then decide (a ∈ had) else !decide (a ∈ had)
def ptH (had : List T) : T → Bool
  | .tup [.str w, a] => stF had w a
  | _ => false
theorem stT_stF {had : List T} {w : PySem.Str} {a : T} : stT (onceT had []) w a = stF had w a := by
  have e : (look (onceT had []) a).isSome = decide (a ∈ had) := by
    rw [Bool.eq_iff_iff, look_mem, once_mem, decide_eq_true_eq]
    simp [mk1]
  unfold stT stF
  rw [e]
abbrev TabAt (g : G) (P : Addr) (line col : Nat) (q : PySem.Str) : Prop := ∃ nm, g P = some (.tbl nm) ∧ nm line col = q
theorem TabAt.sub {g g' : G} {P : Addr} {l c : Nat} {q : PySem.Str} (h : TabAt g P l c q) (s : Sub g g') : TabAt g' P l c q := by
  obtain ⟨nm, e, h⟩ := h
  exact ⟨nm, s _ _ e, h⟩
abbrev tabB (g : G) (P : Addr) : Prop := TabAt g P 152 4 ((("bindings" : PySem.Str) ++ ".<locals>.") ++ "things_of")
def one1 (b : Bool) : List T := if b = true then [.dct []] else []
def sp_bind (P : Addr) : TSp := fun ds g Q _ => ∃ ps had, ds = [.tup ps, .lst had] ∧ (∀ p ∈ ps, ∃ w a, Pt p w a) ∧ (∀ t ∈ had, Fc t) ∧ had.length ≤ sizeLine ∧ tabB g P ∧ ∀ p, g p = none → Q (.ref p) (gput g p (.lst (one1 (ps.all (ptH had)))))
theorem p_bindings (P : Addr) (ds : List T) (g : G) (Q : K1) (h : sp_bind P ds g Q noX) : t_bindings P sp_once sp_gone sp_nsorted (sp_rank 7) { nx := fun _ g' => Q .non g', rt := Q } (TL.startT N_bindings ds) g := by
  obtain ⟨ps, had, rfl, hp, hf, hl, tb, q⟩ := h
  unfold t_bindings
  simp only [qFrz_k, frzK_lst, frzK_dct, frzK_tup, qSeq, qIfS, qOr, qNot, qAnd, qTB, qCB, qCons, qNil, qTup, qLstF, qVar, qC, sl, bIsi, c2, c1, m0, m1, m2, res_tup, res_lst', res_int, res_str, res_bl, res_non, res_dct, res_ty, tyN, isStr, TL.isInt, TL.isTup, TL.isBool, TL.isLst, isN, isB, qIf, qChain, cLe, cLt, cGt, cGe, cEq, cNe, cEqV, cIn, cNotIn, cIsN, cNotN, n2, bLen, lenV, bInt, bTup, qNext, qRet, qRetN, qDrop, qAndV, qOrV, qNotV, qOp, aIx, ixV, idx, aSub, aMul, aMod, aFdiv, uNeg, riAdd, riSub, qCall, qAsg, gtName, gtTup, gtCons, gtNil, iLst, iTp, qFor, TL.startT, List.replicate, List.map_cons, List.map_nil, List.length_cons, List.length_nil, List.cons_append, List.nil_append, List.append_nil, List.set_cons_succ, List.set_cons_zero, List.getElem?_cons_zero, List.getElem?_cons_succ, List.getD_cons_zero, List.getD_cons_succ, List.headD_cons, Option.isSome_some, Bool.not_true, Bool.not_false, Bool.false_eq_true, if_true, if_false, true_and, and_true, decide_eq_true_eq, decide_true, decide_false, Nat.zero_add, reduceIte, reduceCtorEq]
  refine ⟨had, rfl, fun t ht => (hf t ht).key, hl, ?_⟩
  simp only [qFrz_k, frzK_lst, frzK_dct, frzK_tup, qSeq, qIfS, qOr, qNot, qAnd, qTB, qCB, qCons, qNil, qTup, qLstF, qVar, qC, sl, bIsi, c2, c1, m0, m1, m2, res_tup, res_lst', res_int, res_str, res_bl, res_non, res_dct, res_ty, tyN, isStr, TL.isInt, TL.isTup, TL.isBool, TL.isLst, isN, isB, qIf, qChain, cLe, cLt, cGt, cGe, cEq, cNe, cEqV, cIn, cNotIn, cIsN, cNotN, n2, bLen, lenV, bInt, bTup, qNext, qRet, qRetN, qDrop, qAndV, qOrV, qNotV, qOp, aIx, ixV, idx, aSub, aMul, aMod, aFdiv, uNeg, riAdd, riSub, qCall, qAsg, gtName, gtTup, gtCons, gtNil, iLst, iTp, qFor, TL.startT, List.replicate, List.map_cons, List.map_nil, List.length_cons, List.length_nil, List.cons_append, List.nil_append, List.append_nil, List.set_cons_succ, List.set_cons_zero, List.getElem?_cons_zero, List.getElem?_cons_succ, List.getD_cons_zero, List.getD_cons_succ, List.headD_cons, Option.isSome_some, Bool.not_true, Bool.not_false, Bool.false_eq_true, if_true, if_false, true_and, and_true, decide_eq_true_eq, decide_true, decide_false, Nat.zero_add, reduceIte, reduceCtorEq, qDict0]
  intro p0 hp0
  rw [frzK_putD hp0]
  refine ⟨by rw [sizeLine_eq]; simp, ?_⟩
  try simp only [qFrz_k, frzK_lst, frzK_dct, frzK_tup, qSeq, qIfS, qOr, qNot, qAnd, qTB, qCB, qCons, qNil, qTup, qLstF, qVar, qC, sl, bIsi, c2, c1, m0, m1, m2, res_tup, res_lst', res_int, res_str, res_bl, res_non, res_dct, res_ty, tyN, isStr, TL.isInt, TL.isTup, TL.isBool, TL.isLst, isN, isB, qIf, qChain, cLe, cLt, cGt, cGe, cEq, cNe, cEqV, cIn, cNotIn, cIsN, cNotN, n2, bLen, lenV, bInt, bTup, qNext, qRet, qRetN, qDrop, qAndV, qOrV, qNotV, qOp, aIx, ixV, idx, aSub, aMul, aMod, aFdiv, uNeg, riAdd, riSub, qCall, qAsg, gtName, gtTup, gtCons, gtNil, iLst, iTp, qFor, TL.startT, List.replicate, List.map_cons, List.map_nil, List.length_cons, List.length_nil, List.cons_append, List.nil_append, List.append_nil, List.set_cons_succ, List.set_cons_zero, List.getElem?_cons_zero, List.getElem?_cons_succ, List.getD_cons_zero, List.getD_cons_succ, List.headD_cons, Option.isSome_some, Bool.not_true, Bool.not_false, Bool.false_eq_true, if_true, if_false, true_and, and_true, decide_eq_true_eq, decide_true, decide_false, Nat.zero_add, reduceIte, reduceCtorEq, iTp]
  refine wFor_I (fun us δ g' => g' = g ∧ (∀ u ∈ us, u ∈ ps) ∧ ∃ b a5 a4 a6, (b && us.all (ptH had)) = ps.all (ptH had) ∧ δ = [some (.tup ps), some (.lst had), some (.dct (onceT had [])), some (.lst (one1 b)), a4, a5, a6, none, none]) (fun _ _ _ _ => trivial) ?_ ?_ ps _ _ ⟨rfl, fun _ h => h, true, _, _, _, by simp, rfl⟩
  · rintro t us δ g' ⟨rfl, hm, b, a5, a4, a6, hb, rfl⟩ K hK
    obtain ⟨w, f, hpt⟩ := hp t (hm t (List.mem_cons_self ..))
    have hpH : ptH had t = stF had w f := by obtain ⟨rfl, _⟩ := hpt; rfl
    simp only [qFrz_k, frzK_lst, frzK_dct, frzK_tup, qSeq, qIfS, qOr, qNot, qAnd, qTB, qCB, qCons, qNil, qTup, qLstF, qVar, qC, sl, bIsi, c2, c1, m0, m1, m2, res_tup, res_lst', res_int, res_str, res_bl, res_non, res_dct, res_ty, tyN, isStr, TL.isInt, TL.isTup, TL.isBool, TL.isLst, isN, isB, qIf, qChain, cLe, cLt, cGt, cGe, cEq, cNe, cEqV, cIn, cNotIn, cIsN, cNotN, n2, bLen, lenV, bInt, bTup, qNext, qRet, qRetN, qDrop, qAndV, qOrV, qNotV, qOp, aIx, ixV, idx, aSub, aMul, aMod, aFdiv, uNeg, riAdd, riSub, qCall, qAsg, gtName, gtTup, gtCons, gtNil, iLst, iTp, qFor, TL.startT, List.replicate, List.map_cons, List.map_nil, List.length_cons, List.length_nil, List.cons_append, List.nil_append, List.append_nil, List.set_cons_succ, List.set_cons_zero, List.getElem?_cons_zero, List.getElem?_cons_succ, List.getD_cons_zero, List.getD_cons_succ, List.headD_cons, Option.isSome_some, Bool.not_true, Bool.not_false, Bool.false_eq_true, if_true, if_false, true_and, and_true, decide_eq_true_eq, decide_true, decide_false, Nat.zero_add, reduceIte, reduceCtorEq, qLst]
    refine ⟨Nat.zero_le _, fun p hn => ?_⟩
    try simp only [qFrz_k, frzK_lst, frzK_dct, frzK_tup, qSeq, qIfS, qOr, qNot, qAnd, qTB, qCB, qCons, qNil, qTup, qLstF, qVar, qC, sl, bIsi, c2, c1, m0, m1, m2, res_tup, res_lst', res_int, res_str, res_bl, res_non, res_dct, res_ty, tyN, isStr, TL.isInt, TL.isTup, TL.isBool, TL.isLst, isN, isB, qIf, qChain, cLe, cLt, cGt, cGe, cEq, cNe, cEqV, cIn, cNotIn, cIsN, cNotN, n2, bLen, lenV, bInt, bTup, qNext, qRet, qRetN, qDrop, qAndV, qOrV, qNotV, qOp, aIx, ixV, idx, aSub, aMul, aMod, aFdiv, uNeg, riAdd, riSub, qCall, qAsg, gtName, gtTup, gtCons, gtNil, iLst, iTp, qFor, TL.startT, List.replicate, List.map_cons, List.map_nil, List.length_cons, List.length_nil, List.cons_append, List.nil_append, List.append_nil, List.set_cons_succ, List.set_cons_zero, List.getElem?_cons_zero, List.getElem?_cons_succ, List.getD_cons_zero, List.getD_cons_succ, List.headD_cons, Option.isSome_some, Bool.not_true, Bool.not_false, Bool.false_eq_true, if_true, if_false, true_and, and_true, decide_eq_true_eq, decide_true, decide_false, Nat.zero_add, reduceIte, reduceCtorEq, iLst]
    cases b with
    | false =>
      simp only [one1, Bool.false_eq_true, if_false, wFor]
      refine ⟨trivial, ?_⟩
      simp only [qFrz_k, frzK_lst, frzK_dct, frzK_tup, qSeq, qIfS, qOr, qNot, qAnd, qTB, qCB, qCons, qNil, qTup, qLstF, qVar, qC, sl, bIsi, c2, c1, m0, m1, m2, res_tup, res_lst', res_int, res_str, res_bl, res_non, res_dct, res_ty, tyN, isStr, TL.isInt, TL.isTup, TL.isBool, TL.isLst, isN, isB, qIf, qChain, cLe, cLt, cGt, cGe, cEq, cNe, cEqV, cIn, cNotIn, cIsN, cNotN, n2, bLen, lenV, bInt, bTup, qNext, qRet, qRetN, qDrop, qAndV, qOrV, qNotV, qOp, aIx, ixV, idx, aSub, aMul, aMod, aFdiv, uNeg, riAdd, riSub, qCall, qAsg, gtName, gtTup, gtCons, gtNil, iLst, iTp, qFor, TL.startT, List.replicate, List.map_cons, List.map_nil, List.length_cons, List.length_nil, List.cons_append, List.nil_append, List.append_nil, List.set_cons_succ, List.set_cons_zero, List.getElem?_cons_zero, List.getElem?_cons_succ, List.getD_cons_zero, List.getD_cons_succ, List.headD_cons, Option.isSome_some, Bool.not_true, Bool.not_false, Bool.false_eq_true, if_true, if_false, true_and, and_true, decide_eq_true_eq, decide_true, decide_false, Nat.zero_add, reduceIte, reduceCtorEq]
      rw [frzK_putL hn]
      exact hK _ _ ⟨rfl, fun u hu => hm u (List.mem_cons_of_mem _ hu), false, _, _, _, by simpa using hb, rfl⟩
    | true =>
      simp only [one1, if_true, wFor]
      refine ⟨trivial, ?_⟩
      simp only [qFrz_k, frzK_lst, frzK_dct, frzK_tup, qSeq, qIfS, qOr, qNot, qAnd, qTB, qCB, qCons, qNil, qTup, qLstF, qVar, qC, sl, bIsi, c2, c1, m0, m1, m2, res_tup, res_lst', res_int, res_str, res_bl, res_non, res_dct, res_ty, tyN, isStr, TL.isInt, TL.isTup, TL.isBool, TL.isLst, isN, isB, qIf, qChain, cLe, cLt, cGt, cGe, cEq, cNe, cEqV, cIn, cNotIn, cIsN, cNotN, n2, bLen, lenV, bInt, bTup, qNext, qRet, qRetN, qDrop, qAndV, qOrV, qNotV, qOp, aIx, ixV, idx, aSub, aMul, aMod, aFdiv, uNeg, riAdd, riSub, qCall, qAsg, gtName, gtTup, gtCons, gtNil, iLst, iTp, qFor, TL.startT, List.replicate, List.map_cons, List.map_nil, List.length_cons, List.length_nil, List.cons_append, List.nil_append, List.append_nil, List.set_cons_succ, List.set_cons_zero, List.getElem?_cons_zero, List.getElem?_cons_succ, List.getD_cons_zero, List.getD_cons_succ, List.headD_cons, Option.isSome_some, Bool.not_true, Bool.not_false, Bool.false_eq_true, if_true, if_false, true_and, and_true, decide_eq_true_eq, decide_true, decide_false, Nat.zero_add, reduceIte, reduceCtorEq, qBM]
      refine ⟨by simp [res, gput_same, TL.isTp], t, w, f, _, rfl, hpt, once_tup (fun t ht => (hf t ht).key) rfl, ?_⟩
      simp only [mExtend, m1, gl, gput_same, res_lst']
      refine ⟨?_, trivial, ?_⟩
      · split <;> rw [sizeLine_eq] <;> simp
      rw [gput_put]
      simp only [qFrz_k, frzK_lst, frzK_dct, frzK_tup, qSeq, qIfS, qOr, qNot, qAnd, qTB, qCB, qCons, qNil, qTup, qLstF, qVar, qC, sl, bIsi, c2, c1, m0, m1, m2, res_tup, res_lst', res_int, res_str, res_bl, res_non, res_dct, res_ty, tyN, isStr, TL.isInt, TL.isTup, TL.isBool, TL.isLst, isN, isB, qIf, qChain, cLe, cLt, cGt, cGe, cEq, cNe, cEqV, cIn, cNotIn, cIsN, cNotN, n2, bLen, lenV, bInt, bTup, qNext, qRet, qRetN, qDrop, qAndV, qOrV, qNotV, qOp, aIx, ixV, idx, aSub, aMul, aMod, aFdiv, uNeg, riAdd, riSub, qCall, qAsg, gtName, gtTup, gtCons, gtNil, iLst, iTp, qFor, TL.startT, List.replicate, List.map_cons, List.map_nil, List.length_cons, List.length_nil, List.cons_append, List.nil_append, List.append_nil, List.set_cons_succ, List.set_cons_zero, List.getElem?_cons_zero, List.getElem?_cons_succ, List.getD_cons_zero, List.getD_cons_succ, List.headD_cons, Option.isSome_some, Bool.not_true, Bool.not_false, Bool.false_eq_true, if_true, if_false, true_and, and_true, decide_eq_true_eq, decide_true, decide_false, Nat.zero_add, reduceIte, reduceCtorEq]
      rw [frzK_putL hn, stT_stF, ← hpH]
      refine hK _ _ ⟨rfl, fun u hu => hm u (List.mem_cons_of_mem _ hu), ptH had t, _, _, _, ?_, rfl⟩
      simpa [List.all_cons] using hb
  · rintro δ g' ⟨rfl, hm, b, a5, a4, a6, hb, rfl⟩
    simp only [qFrz_k, frzK_lst, frzK_dct, frzK_tup, qSeq, qIfS, qOr, qNot, qAnd, qTB, qCB, qCons, qNil, qTup, qLstF, qVar, qC, sl, bIsi, c2, c1, m0, m1, m2, res_tup, res_lst', res_int, res_str, res_bl, res_non, res_dct, res_ty, tyN, isStr, TL.isInt, TL.isTup, TL.isBool, TL.isLst, isN, isB, qIf, qChain, cLe, cLt, cGt, cGe, cEq, cNe, cEqV, cIn, cNotIn, cIsN, cNotN, n2, bLen, lenV, bInt, bTup, qNext, qRet, qRetN, qDrop, qAndV, qOrV, qNotV, qOp, aIx, ixV, idx, aSub, aMul, aMod, aFdiv, uNeg, riAdd, riSub, qCall, qAsg, gtName, gtTup, gtCons, gtNil, iLst, iTp, qFor, TL.startT, List.replicate, List.map_cons, List.map_nil, List.length_cons, List.length_nil, List.cons_append, List.nil_append, List.append_nil, List.set_cons_succ, List.set_cons_zero, List.getElem?_cons_zero, List.getElem?_cons_succ, List.getD_cons_zero, List.getD_cons_succ, List.headD_cons, Option.isSome_some, Bool.not_true, Bool.not_false, Bool.false_eq_true, if_true, if_false, true_and, and_true, decide_eq_true_eq, decide_true, decide_false, Nat.zero_add, reduceIte, reduceCtorEq]
    refine ⟨ps, rfl, hp, ?_⟩
    simp only [qFrz_k, frzK_lst, frzK_dct, frzK_tup, qSeq, qIfS, qOr, qNot, qAnd, qTB, qCB, qCons, qNil, qTup, qLstF, qVar, qC, sl, bIsi, c2, c1, m0, m1, m2, res_tup, res_lst', res_int, res_str, res_bl, res_non, res_dct, res_ty, tyN, isStr, TL.isInt, TL.isTup, TL.isBool, TL.isLst, isN, isB, qIf, qChain, cLe, cLt, cGt, cGe, cEq, cNe, cEqV, cIn, cNotIn, cIsN, cNotN, n2, bLen, lenV, bInt, bTup, qNext, qRet, qRetN, qDrop, qAndV, qOrV, qNotV, qOp, aIx, ixV, idx, aSub, aMul, aMod, aFdiv, uNeg, riAdd, riSub, qCall, qAsg, gtName, gtTup, gtCons, gtNil, iLst, iTp, qFor, TL.startT, List.replicate, List.map_cons, List.map_nil, List.length_cons, List.length_nil, List.cons_append, List.nil_append, List.append_nil, List.set_cons_succ, List.set_cons_zero, List.getElem?_cons_zero, List.getElem?_cons_succ, List.getD_cons_zero, List.getD_cons_succ, List.headD_cons, Option.isSome_some, Bool.not_true, Bool.not_false, Bool.false_eq_true, if_true, if_false, true_and, and_true, decide_eq_true_eq, decide_true, decide_false, Nat.zero_add, reduceIte, reduceCtorEq, qNdSort]
    refine ⟨tb, by simp, fun f F hf => ?_⟩
    simp only [List.all_nil, Bool.and_true] at hb
    subst hb
    refine ⟨gput_same, one1 (ps.all (ptH had)), fun _ => .lst [], 2, rfl, by unfold one1; split <;> rw [sizeLine_eq] <;> simp, fun t ht Q' hq => ?_, ⟨fun _ _ => ⟨rfl, rfl⟩, fun z => ?_, fun z => ?_⟩, by omega, fun ts' p hts _ hpn => ?_⟩
    · have e : startC N_bindings_nd t (caps [some (.tup ps), some (.lst had), some (.dct (onceT had [])), some (.lst (one1 (ps.all (ptH had)))), a4, a5, a6, some (.lst []), some (.ref f)] [7]) = [some t, some (.lst []), none] := rfl
      rw [e]
      refine lcF (F := fun _ => none) (ts := []) (kp := yes) (fun R h => h) (fun _ _ => trivial) (fun t ht => by cases ht) (by simp) ?_
      exact hq
    · unfold one1 at z; split at z <;> simp at z
    · unfold one1 at z; split at z <;> simp at z
    · have hpf : p ≠ f := fun z => by rw [z, gput_same] at hpn; cases hpn
      rw [gput_ne hpf] at hpn
      rw [gdel_put hf]
      have e : ts' = one1 (ps.all (ptH had)) := by
        unfold one1 at hts ⊢
        split
        · rename_i e; rw [if_pos e] at hts; exact List.perm_singleton.mp hts
        · rename_i e; rw [if_neg e] at hts; exact List.perm_nil.mp hts
      rw [e]
      exact q p hpn
end K82
set_option Elab.async false
set_option linter.all false
set_option maxRecDepth 100000
set_option maxHeartbeats 4000000
namespace K82
open PySem PySem.Spec L2 PyProof.Rows TL
def ruT (goal : T) (ps : List T) : T := .tup [goal, .non, .tup ps]
def gvT (goal : T) (b : Bool) : List T := if b = true then [goal] else []
def sp_gives (P : Addr) : TSp := fun ds g Q _ => ∃ goal ps had, ds = [ruT goal ps, .lst had] ∧ Fc goal ∧ (∀ p ∈ ps, ∃ w a, Pt p w a) ∧ (∀ t ∈ had, Fc t) ∧ had.length ≤ sizeLine ∧ tabB g P ∧ ∀ g', Sub g g' → Q (.lst (gvT goal (ps.all (ptH had)))) g'
theorem sorted_nil {out : List T} (h : Sorted [] out) : out = [] := List.eq_nil_iff_forall_not_mem.mpr fun k hk => by simpa using (h.2.1 k).mp hk
theorem sorted_one {t : T} {out : List T} (h : Sorted [t] out) : out = [t] := by
  obtain ⟨h1, h2, h3, _⟩ := h
  match out, h2, h3 with
  | [], h2, _ => exact absurd ((h2 t).mpr (List.mem_cons_self ..)) (by simp)
  | [u], h2, _ => rw [List.mem_singleton.mp ((h2 u).mp (List.mem_cons_self ..))]
  | _ :: _ :: _, _, h3 => simp at h3
theorem p_gives (P : Addr) (ds : List T) (g : G) (Q : K1) (h : sp_gives P ds g Q noX) : t_gives (sp_bind P) (sp_filled 7) sp_ordered sp_fact { nx := fun _ g' => Q .non g', rt := Q } (TL.startT N_gives ds) g := by
  obtain ⟨goal, ps, had, rfl, hg, hp, hf, hl, tb, q⟩ := h
  unfold t_gives ruT
  simp only [qFrz_k, frzK_lst, frzK_dct, frzK_tup, qSeq, qIfS, qOr, qNot, qAnd, qTB, qCB, qCons, qNil, qTup, qLstF, qVar, qC, sl, bIsi, c2, c1, m0, m1, m2, res_tup, res_lst', res_int, res_str, res_bl, res_non, res_dct, res_ty, tyN, isStr, TL.isInt, TL.isTup, TL.isBool, TL.isLst, isN, isB, qIf, qChain, cLe, cLt, cGt, cGe, cEq, cNe, cEqV, cIn, cNotIn, cIsN, cNotN, n2, bLen, lenV, bInt, bTup, qNext, qRet, qRetN, qDrop, qAndV, qOrV, qNotV, qOp, aIx, ixV, idx, aSub, aMul, aMod, aFdiv, uNeg, riAdd, riSub, qCall, qAsg, gtName, gtTup, gtCons, gtNil, iLst, iTp, qFor, TL.startT, List.replicate, List.map_cons, List.map_nil, List.length_cons, List.length_nil, List.cons_append, List.nil_append, List.append_nil, List.set_cons_succ, List.set_cons_zero, List.getElem?_cons_zero, List.getElem?_cons_succ, List.getD_cons_zero, List.getD_cons_succ, List.headD_cons, Option.isSome_some, Bool.not_true, Bool.not_false, Bool.false_eq_true, if_true, if_false, true_and, and_true, decide_eq_true_eq, decide_true, decide_false, Nat.zero_add, reduceIte, reduceCtorEq, qDict0]
  intro pd hpd
  try simp only [qFrz_k, frzK_lst, frzK_dct, frzK_tup, qSeq, qIfS, qOr, qNot, qAnd, qTB, qCB, qCons, qNil, qTup, qLstF, qVar, qC, sl, bIsi, c2, c1, m0, m1, m2, res_tup, res_lst', res_int, res_str, res_bl, res_non, res_dct, res_ty, tyN, isStr, TL.isInt, TL.isTup, TL.isBool, TL.isLst, isN, isB, qIf, qChain, cLe, cLt, cGt, cGe, cEq, cNe, cEqV, cIn, cNotIn, cIsN, cNotN, n2, bLen, lenV, bInt, bTup, qNext, qRet, qRetN, qDrop, qAndV, qOrV, qNotV, qOp, aIx, ixV, idx, aSub, aMul, aMod, aFdiv, uNeg, riAdd, riSub, qCall, qAsg, gtName, gtTup, gtCons, gtNil, iLst, iTp, qFor, TL.startT, List.replicate, List.map_cons, List.map_nil, List.length_cons, List.length_nil, List.cons_append, List.nil_append, List.append_nil, List.set_cons_succ, List.set_cons_zero, List.getElem?_cons_zero, List.getElem?_cons_succ, List.getD_cons_zero, List.getD_cons_succ, List.headD_cons, Option.isSome_some, Bool.not_true, Bool.not_false, Bool.false_eq_true, if_true, if_false, true_and, and_true, decide_eq_true_eq, decide_true, decide_false, Nat.zero_add, reduceIte, reduceCtorEq, iLst]
  refine ⟨ps, had, rfl, hp, hf, hl, tb.sub (sub_put hpd), fun pb hpb => ?_⟩
  simp only [gput_same]
  have hne : pb ≠ pd := fun z => by rw [z, gput_same] at hpb; cases hpb
  -- the end: from a table heads of these keys on
  have fin : ∀ (g4 : G) (kvs : List (T × T)) (a6 : Option T), Sub g g4 → g4 pd = some (.dct kvs) → mk1 kvs = gvT goal (ps.all (ptH had)) →
      (qSeq (qAsg (qFrz (qCB bList (qCons (qVar 5) qNil))) (gtName 7)) (qSeq (qIfS (qTB (qOp cNotN (qVar 3) (qC .non))) qNever qNext) (qRet (qCall sp_ordered [] (qCons (qFrz (qLc [9] (iLst (qVar 7)) (gtName 9) (qTB (qCall sp_fact [] (qCons (qVar 9) qNil))) (qVar 9))) qNil)))))
        { nx := fun _ g' => Q .non g', rt := Q } [some (.tup [goal, .non, .tup ps]), some (.lst had), some goal, some .non, some (.tup ps), some (.ref pd), a6, none, none, none] g4 := by
    intro g4 kvs a6 hs hd hk
    simp only [qFrz_k, frzK_lst, frzK_dct, frzK_tup, qSeq, qIfS, qOr, qNot, qAnd, qTB, qCB, qCons, qNil, qTup, qLstF, qVar, qC, sl, bIsi, c2, c1, m0, m1, m2, res_tup, res_lst', res_int, res_str, res_bl, res_non, res_dct, res_ty, tyN, isStr, TL.isInt, TL.isTup, TL.isBool, TL.isLst, isN, isB, qIf, qChain, cLe, cLt, cGt, cGe, cEq, cNe, cEqV, cIn, cNotIn, cIsN, cNotN, n2, bLen, lenV, bInt, bTup, qNext, qRet, qRetN, qDrop, qAndV, qOrV, qNotV, qOp, aIx, ixV, idx, aSub, aMul, aMod, aFdiv, uNeg, riAdd, riSub, qCall, qAsg, gtName, gtTup, gtCons, gtNil, iLst, iTp, qFor, TL.startT, List.replicate, List.map_cons, List.map_nil, List.length_cons, List.length_nil, List.cons_append, List.nil_append, List.append_nil, List.set_cons_succ, List.set_cons_zero, List.getElem?_cons_zero, List.getElem?_cons_succ, List.getD_cons_zero, List.getD_cons_succ, List.headD_cons, Option.isSome_some, Bool.not_true, Bool.not_false, Bool.false_eq_true, if_true, if_false, true_and, and_true, decide_eq_true_eq, decide_true, decide_false, Nat.zero_add, reduceIte, reduceCtorEq, bList, res_refD hd]
    intro p hpn
    rw [frzK_putL hpn]
    have hk' : kvs.map (·.1) = gvT goal (ps.all (ptH had)) := hk
    rw [hk']
    refine lcK (F := fun t => some t) (ts := gvT goal (ps.all (ptH had))) (kp := yes) (fun R h => h) (fun _ _ => trivial) (fun t ht g' K hs hK => ?_) (by unfold gvT; split <;> rw [sizeLine_eq] <;> simp) ?_
    · have ht' : t = goal := by unfold gvT at ht; split at ht <;> simp at ht; exact ht
      subst ht'
      obtain ⟨us, rfl⟩ := hg.tup
      simp only [qFrz_k, frzK_lst, frzK_dct, frzK_tup, qSeq, qIfS, qOr, qNot, qAnd, qTB, qCB, qCons, qNil, qTup, qLstF, qVar, qC, sl, bIsi, c2, c1, m0, m1, m2, res_tup, res_lst', res_int, res_str, res_bl, res_non, res_dct, res_ty, tyN, isStr, TL.isInt, TL.isTup, TL.isBool, TL.isLst, isN, isB, qIf, qChain, cLe, cLt, cGt, cGe, cEq, cNe, cEqV, cIn, cNotIn, cIsN, cNotN, n2, bLen, lenV, bInt, bTup, qNext, qRet, qRetN, qDrop, qAndV, qOrV, qNotV, qOp, aIx, ixV, idx, aSub, aMul, aMod, aFdiv, uNeg, riAdd, riSub, qCall, qAsg, gtName, gtTup, gtCons, gtNil, iLst, iTp, qFor, TL.startT, List.replicate, List.map_cons, List.map_nil, List.length_cons, List.length_nil, List.cons_append, List.nil_append, List.append_nil, List.set_cons_succ, List.set_cons_zero, List.getElem?_cons_zero, List.getElem?_cons_succ, List.getD_cons_zero, List.getD_cons_succ, List.headD_cons, Option.isSome_some, Bool.not_true, Bool.not_false, Bool.false_eq_true, if_true, if_false, true_and, and_true, decide_eq_true_eq, decide_true, decide_false, Nat.zero_add, reduceIte, reduceCtorEq, wipeT]
      exact ⟨rfl, ⟨us, rfl, hg.th⟩, hK⟩
    · rw [List.filterMap_some]
      refine ⟨_, _, rfl, .inl rfl, ?_, ?_, fun out ho => ?_⟩
      · intro t ht
        have ht' : t = goal := by unfold gvT at ht; split at ht <;> simp at ht; exact ht
        rw [ht']; exact hg
      · unfold gvT; split <;> rw [sizeLine_eq] <;> simp
      · have e : out = gvT goal (ps.all (ptH had)) := by
          unfold gvT at ho ⊢
          split
          · rename_i e; rw [if_pos e] at ho; exact sorted_one ho
          · rename_i e; rw [if_neg e] at ho; exact sorted_nil ho
        rw [e]
        exact q g4 hs
  have s1 : Sub g (gput (gput g pd (.dct [])) pb (.lst (one1 (ps.all (ptH had))))) := (sub_put hpd).trans (sub_put hpb)
  cases hb : ps.all (ptH had) with
  | false =>
    rw [hb] at s1 fin
    simp only [one1, Bool.false_eq_true, if_false] at s1 ⊢
    exact ⟨gput_same, fin _ [] none s1 (by rw [gput_ne hne.symm, gput_same]) rfl⟩
  | true =>
    rw [hb] at s1 fin
    simp only [one1, if_true] at s1 ⊢
    refine ⟨gput_same, ?_⟩
    simp only [qFrz_k, frzK_lst, frzK_dct, frzK_tup, qSeq, qIfS, qOr, qNot, qAnd, qTB, qCB, qCons, qNil, qTup, qLstF, qVar, qC, sl, bIsi, c2, c1, m0, m1, m2, res_tup, res_lst', res_int, res_str, res_bl, res_non, res_dct, res_ty, tyN, isStr, TL.isInt, TL.isTup, TL.isBool, TL.isLst, isN, isB, qIf, qChain, cLe, cLt, cGt, cGe, cEq, cNe, cEqV, cIn, cNotIn, cIsN, cNotN, n2, bLen, lenV, bInt, bTup, qNext, qRet, qRetN, qDrop, qAndV, qOrV, qNotV, qOp, aIx, ixV, idx, aSub, aMul, aMod, aFdiv, uNeg, riAdd, riSub, qCall, qAsg, gtName, gtTup, gtCons, gtNil, iLst, iTp, qFor, TL.startT, List.replicate, List.map_cons, List.map_nil, List.length_cons, List.length_nil, List.cons_append, List.nil_append, List.append_nil, List.set_cons_succ, List.set_cons_zero, List.getElem?_cons_zero, List.getElem?_cons_succ, List.getD_cons_zero, List.getD_cons_succ, List.headD_cons, Option.isSome_some, Bool.not_true, Bool.not_false, Bool.false_eq_true, if_true, if_false, true_and, and_true, decide_eq_true_eq, decide_true, decide_false, Nat.zero_add, reduceIte, reduceCtorEq, qBM]
    refine ⟨by rw [res_refD (by rw [gput_ne hne.symm, gput_same])]; rfl, rfl, ⟨_, goal, 6, rfl, hg.th, by omega⟩, ?_⟩
    simp only [qFrz_k, frzK_lst, frzK_dct, frzK_tup, qSeq, qIfS, qOr, qNot, qAnd, qTB, qCB, qCons, qNil, qTup, qLstF, qVar, qC, sl, bIsi, c2, c1, m0, m1, m2, res_tup, res_lst', res_int, res_str, res_bl, res_non, res_dct, res_ty, tyN, isStr, TL.isInt, TL.isTup, TL.isBool, TL.isLst, isN, isB, qIf, qChain, cLe, cLt, cGt, cGe, cEq, cNe, cEqV, cIn, cNotIn, cIsN, cNotN, n2, bLen, lenV, bInt, bTup, qNext, qRet, qRetN, qDrop, qAndV, qOrV, qNotV, qOp, aIx, ixV, idx, aSub, aMul, aMod, aFdiv, uNeg, riAdd, riSub, qCall, qAsg, gtName, gtTup, gtCons, gtNil, iLst, iTp, qFor, TL.startT, List.replicate, List.map_cons, List.map_nil, List.length_cons, List.length_nil, List.cons_append, List.nil_append, List.append_nil, List.set_cons_succ, List.set_cons_zero, List.getElem?_cons_zero, List.getElem?_cons_succ, List.getD_cons_zero, List.getD_cons_succ, List.headD_cons, Option.isSome_some, Bool.not_true, Bool.not_false, Bool.false_eq_true, if_true, if_false, true_and, and_true, decide_eq_true_eq, decide_true, decide_false, Nat.zero_add, reduceIte, reduceCtorEq, qLst]
    refine ⟨Nat.zero_le _, fun l hln => ?_⟩
    have hl1 : l ≠ pb := fun z => by rw [z, gput_same] at hln; cases hln
    rw [gput_ne hl1] at hln
    have hl2 : l ≠ pd := fun z => by rw [z, gput_same] at hln; cases hln
    rw [gput_ne hl2] at hln
    simp only [mSetD, m2, gd]
    have e1 : (gput (gput (gput g pd (.dct [])) pb (.lst [.dct []])) l (.lst [])) pd = some (.dct []) := by rw [gput_ne hl2.symm, gput_ne hne.symm, gput_same]
    simp only [e1, look_nil]
    refine ⟨kOk_t hg.key rfl, by rw [sizeLine_eq]; simp, ?_⟩
    have e2 : ∀ o, (gput (gput (gput (gput g pd (.dct [])) pb (.lst [.dct []])) l (.lst [])) pd o) l = some (.lst []) := fun o => by rw [gput_ne hl2, gput_same]
    refine ⟨by rw [res_refL (e2 _)]; rfl, ?_⟩
    simp only [qFrz_k, frzK_lst, frzK_dct, frzK_tup, qSeq, qIfS, qOr, qNot, qAnd, qTB, qCB, qCons, qNil, qTup, qLstF, qVar, qC, sl, bIsi, c2, c1, m0, m1, m2, res_tup, res_lst', res_int, res_str, res_bl, res_non, res_dct, res_ty, tyN, isStr, TL.isInt, TL.isTup, TL.isBool, TL.isLst, isN, isB, qIf, qChain, cLe, cLt, cGt, cGe, cEq, cNe, cEqV, cIn, cNotIn, cIsN, cNotN, n2, bLen, lenV, bInt, bTup, qNext, qRet, qRetN, qDrop, qAndV, qOrV, qNotV, qOp, aIx, ixV, idx, aSub, aMul, aMod, aFdiv, uNeg, riAdd, riSub, qCall, qAsg, gtName, gtTup, gtCons, gtNil, iLst, iTp, qFor, TL.startT, List.replicate, List.map_cons, List.map_nil, List.length_cons, List.length_nil, List.cons_append, List.nil_append, List.append_nil, List.set_cons_succ, List.set_cons_zero, List.getElem?_cons_zero, List.getElem?_cons_succ, List.getD_cons_zero, List.getD_cons_succ, List.headD_cons, Option.isSome_some, Bool.not_true, Bool.not_false, Bool.false_eq_true, if_true, if_false, true_and, and_true, decide_eq_true_eq, decide_true, decide_false, Nat.zero_add, reduceIte, reduceCtorEq, mAppend, gl, e2]
    refine ⟨by rw [sizeLine_eq]; simp, ?_⟩
    refine ⟨by show (gput _ _ _) pb = _; rw [gput_ne hl1.symm, gput_ne hne, gput_ne hl1.symm, gput_same], fin _ [(goal, .ref l)] _ ?_ (by rw [gput_ne hl2.symm, gput_same]) rfl⟩
    exact ((s1.put1 hln).put1 hpd).put1 hln
end K82
set_option Elab.async false
set_option linter.all false
set_option maxRecDepth 100000
set_option maxHeartbeats 4000000
namespace K82
open PySem PySem.Spec L2 PyProof.Rows TL
theorem idx_nat {α : Type} {ts : List α} {n : Nat} : idx ts ((n : Nat) : Int) = ts[n]? := rfl
/-- a rule: its parts ground, of other shapes than its head -/
structure Rl (goal r : T) : Prop where
  ex : ∃ ps, r = ruT goal ps ∧ (∀ p ∈ ps, ∃ w a, Pt p w a ∧ Fc a ∧ shT a ≠ shT goal) ∧ ps.length ≤ 6
def bodyOf : T → List T
  | .tup [_, _, .tup ps] => ps
  | _ => []
def isNot : T → Bool
  | .tup [.str w, _] => decide (w = "not")
  | _ => false
def lkP : T → T
  | .tup [.str w, a] => .tup [shT a, .int (if w = "not" then 1 else 0)]
  | t => t
def lkR (r : T) : List T := (bodyOf r).map lkP
theorem Fc.sh {a : T} (h : Fc a) : ∃ x r, a = .tup (.str x :: r) ∧ okW x ∧ r.length ≤ 4 ∧ shT a = .tup [.str x, .int (r.length : Nat)] := by
  obtain ⟨ts, rfl⟩ := h.tup
  rcases th_or h.th with ⟨i, e, _⟩ | ⟨x, r, e, wx, hl, _⟩
  · cases e
  · exact ⟨x, r, e, wx, hl, by rw [e]; rfl⟩
theorem Fc.shK {a : T} (h : Fc a) : tupK (shT a) = true := by
  obtain ⟨x, r, rfl, _, _, e⟩ := h.sh
  rw [e]
  rfl
theorem any_isnot {w : PySem.Str} (h : w = "is" ∨ w = "not") : ([T.str "is", T.str "not"].any fun t => eqb t (.str w)) = true := by
  rcases h with rfl | rfl <;> decide
def sp_looked : TSp := fun ds g Q _ => ∃ goal r, ds = [r] ∧ Rl goal r ∧ Q (.lst (lkR r)) g
theorem strOk_l {x : PySem.Str} (h : (x.cps.toList.all fun c => decide (c < 0x110000)) = true) : PyData.strOk x = true := by
  unfold PyData.strOk
  rw [← Array.all_toList]
  exact h
theorem okS_is {w : PySem.Str} (h : w = "is" ∨ w = "not") (n : Nat) : isDn n (.str w) = true := by
  have e : PyData.strOk w = true := by rcases h with rfl | rfl <;> exact strOk_l (by decide)
  cases n <;> exact e
theorem okS_two : isDs 38 [T.str "is", T.str "not"] = true := isDs_of fun t ht => by
  simp only [List.mem_cons, List.not_mem_nil, or_false] at ht
  rcases ht with rfl | rfl
  · exact okS_is (.inl rfl) _
  · exact okS_is (.inr rfl) _
theorem p_looked_at (ds : List T) (g : G) (Q : K1) (h : sp_looked ds g Q noX) : t_looked_at sp_shape { nx := fun _ g' => Q .non g', rt := Q } (TL.startT N_looked_at ds) g := by
  obtain ⟨goal, r, rfl, ⟨ps, rfl, hp, hl⟩, q⟩ := h
  unfold t_looked_at ruT
  simp only [qFrz_k, frzK_lst, frzK_dct, frzK_tup, qSeq, qIfS, qOr, qNot, qAnd, qTB, qCB, qCons, qNil, qTup, qLstF, qVar, qC, sl, bIsi, c2, c1, m0, m1, m2, res_tup, res_lst', res_int, res_str, res_bl, res_non, res_dct, res_ty, tyN, isStr, TL.isInt, TL.isTup, TL.isBool, TL.isLst, isN, isB, qIf, qChain, cLe, cLt, cGt, cGe, cEq, cNe, cEqV, cIn, cNotIn, cIsN, cNotN, n2, bLen, lenV, bInt, bTup, qNext, qRet, qRetN, qDrop, qAndV, qOrV, qNotV, qOp, aIx, ixV, idx, aSub, aMul, aMod, aFdiv, uNeg, riAdd, riSub, qCall, qAsg, gtName, gtTup, gtCons, gtNil, iLst, iTp, qFor, TL.startT, List.replicate, List.map_cons, List.map_nil, List.length_cons, List.length_nil, List.cons_append, List.nil_append, List.append_nil, List.set_cons_succ, List.set_cons_zero, List.getElem?_cons_zero, List.getElem?_cons_succ, List.getD_cons_zero, List.getD_cons_succ, List.headD_cons, Option.isSome_some, Bool.not_true, Bool.not_false, Bool.false_eq_true, if_true, if_false, true_and, and_true, decide_eq_true_eq, decide_true, decide_false, Nat.zero_add, reduceIte, reduceCtorEq, qLst]
  refine ⟨Nat.zero_le _, fun p hn => ?_⟩
  try simp only [qFrz_k, frzK_lst, frzK_dct, frzK_tup, qSeq, qIfS, qOr, qNot, qAnd, qTB, qCB, qCons, qNil, qTup, qLstF, qVar, qC, sl, bIsi, c2, c1, m0, m1, m2, res_tup, res_lst', res_int, res_str, res_bl, res_non, res_dct, res_ty, tyN, isStr, TL.isInt, TL.isTup, TL.isBool, TL.isLst, isN, isB, qIf, qChain, cLe, cLt, cGt, cGe, cEq, cNe, cEqV, cIn, cNotIn, cIsN, cNotN, n2, bLen, lenV, bInt, bTup, qNext, qRet, qRetN, qDrop, qAndV, qOrV, qNotV, qOp, aIx, ixV, idx, aSub, aMul, aMod, aFdiv, uNeg, riAdd, riSub, qCall, qAsg, gtName, gtTup, gtCons, gtNil, iLst, iTp, qFor, TL.startT, List.replicate, List.map_cons, List.map_nil, List.length_cons, List.length_nil, List.cons_append, List.nil_append, List.append_nil, List.set_cons_succ, List.set_cons_zero, List.getElem?_cons_zero, List.getElem?_cons_succ, List.getD_cons_zero, List.getD_cons_succ, List.headD_cons, Option.isSome_some, Bool.not_true, Bool.not_false, Bool.false_eq_true, if_true, if_false, true_and, and_true, decide_eq_true_eq, decide_true, decide_false, Nat.zero_add, reduceIte, reduceCtorEq, iTp]
  refine wFor_I (fun us δ g' => (∀ u ∈ us, u ∈ ps) ∧ ∃ vs a, g' = gput g p (.lst vs) ∧ vs.length + us.length = ps.length ∧ vs ++ us.map lkP = ps.map lkP ∧ δ = [some (.tup [goal, .non, .tup ps]), some (.ref p), a]) (fun _ _ _ _ => trivial) ?_ ?_ ps _ _ ⟨fun _ h => h, [], _, rfl, by simp, by simp, rfl⟩
  · rintro t us δ g' ⟨hm, vs, a, rfl, hz, hv, rfl⟩ K hK
    obtain ⟨w, f, ⟨rfl, hw, _, _⟩, hf, _⟩ := hp t (hm t (List.mem_cons_self ..))
    obtain ⟨x, r, rfl, _, hr, hsh⟩ := hf.sh
    simp only [qFrz_k, frzK_lst, frzK_dct, frzK_tup, qSeq, qIfS, qOr, qNot, qAnd, qTB, qCB, qCons, qNil, qTup, qLstF, qVar, qC, sl, bIsi, c2, c1, m0, m1, m2, res_tup, res_lst', res_int, res_str, res_bl, res_non, res_dct, res_ty, tyN, isStr, TL.isInt, TL.isTup, TL.isBool, TL.isLst, isN, isB, qIf, qChain, cLe, cLt, cGt, cGe, cEq, cNe, cEqV, cIn, cNotIn, cIsN, cNotN, n2, bLen, lenV, bInt, bTup, qNext, qRet, qRetN, qDrop, qAndV, qOrV, qNotV, qOp, aIx, ixV, idx, aSub, aMul, aMod, aFdiv, uNeg, riAdd, riSub, qCall, qAsg, gtName, gtTup, gtCons, gtNil, iLst, iTp, qFor, TL.startT, List.replicate, List.map_cons, List.map_nil, List.length_cons, List.length_nil, List.cons_append, List.nil_append, List.append_nil, List.set_cons_succ, List.set_cons_zero, List.getElem?_cons_zero, List.getElem?_cons_succ, List.getD_cons_zero, List.getD_cons_succ, List.headD_cons, Option.isSome_some, Bool.not_true, Bool.not_false, Bool.false_eq_true, if_true, if_false, true_and, and_true, decide_eq_true_eq, decide_true, decide_false, Nat.zero_add, reduceIte, reduceCtorEq, cInV]
    refine ⟨by rw [sizeLine_eq]; omega, okS_is hw 40, okS_two, ?_⟩
    simp only [any_isnot hw]
    simp only [qFrz_k, frzK_lst, frzK_dct, frzK_tup, qSeq, qIfS, qOr, qNot, qAnd, qTB, qCB, qCons, qNil, qTup, qLstF, qVar, qC, sl, bIsi, c2, c1, m0, m1, m2, res_tup, res_lst', res_int, res_str, res_bl, res_non, res_dct, res_ty, tyN, isStr, TL.isInt, TL.isTup, TL.isBool, TL.isLst, isN, isB, qIf, qChain, cLe, cLt, cGt, cGe, cEq, cNe, cEqV, cIn, cNotIn, cIsN, cNotN, n2, bLen, lenV, bInt, bTup, qNext, qRet, qRetN, qDrop, qAndV, qOrV, qNotV, qOp, aIx, ixV, idx, aSub, aMul, aMod, aFdiv, uNeg, riAdd, riSub, qCall, qAsg, gtName, gtTup, gtCons, gtNil, iLst, iTp, qFor, TL.startT, List.replicate, List.map_cons, List.map_nil, List.length_cons, List.length_nil, List.cons_append, List.nil_append, List.append_nil, List.set_cons_succ, List.set_cons_zero, List.getElem?_cons_zero, List.getElem?_cons_succ, List.getD_cons_zero, List.getD_cons_succ, List.headD_cons, Option.isSome_some, Bool.not_true, Bool.not_false, Bool.false_eq_true, if_true, if_false, true_and, and_true, decide_eq_true_eq, decide_true, decide_false, Nat.zero_add, reduceIte, reduceCtorEq, qBM]
    refine ⟨by rw [res_refL gput_same]; rfl, rfl, ⟨.str x, r, rfl, by rw [sizeLine_eq]; omega⟩, ?_⟩
    have e : (.str w : T) = .str "not" ↔ w = "not" := ⟨fun z => by cases z; rfl, fun z => by rw [z]⟩
    have fin : ∀ (n : Int), n = (if w = "not" then 1 else 0) → mAppend (.ref p) [.tup [shT (.tup (.str x :: r)), .int n]] (gput g p (.lst vs)) (fun _ g1 => K [some (.tup [goal, .non, .tup ps]), some (.ref p), some (.tup [.str w, .tup (.str x :: r)])] g1) := by
      intro n hn'
      simp only [mAppend, m1, gl, gput_same]
      simp only [List.length_cons] at hz
      refine ⟨by rw [sizeLine_eq]; omega, ?_⟩
      rw [gput_put]
      refine hK _ _ ⟨fun u hu => hm u (List.mem_cons_of_mem _ hu), _, _, rfl, by simp; omega, ?_, rfl⟩
      rw [← hv]
      simp only [List.map_cons, lkP, List.append_assoc, List.cons_append, List.nil_append, hn']
    rcases hw with rfl | rfl
    · simp only [qFrz_k, frzK_lst, frzK_dct, frzK_tup, qSeq, qIfS, qOr, qNot, qAnd, qTB, qCB, qCons, qNil, qTup, qLstF, qVar, qC, sl, bIsi, c2, c1, m0, m1, m2, res_tup, res_lst', res_int, res_str, res_bl, res_non, res_dct, res_ty, tyN, isStr, TL.isInt, TL.isTup, TL.isBool, TL.isLst, isN, isB, qIf, qChain, cLe, cLt, cGt, cGe, cEq, cNe, cEqV, cIn, cNotIn, cIsN, cNotN, n2, bLen, lenV, bInt, bTup, qNext, qRet, qRetN, qDrop, qAndV, qOrV, qNotV, qOp, aIx, ixV, idx, aSub, aMul, aMod, aFdiv, uNeg, riAdd, riSub, qCall, qAsg, gtName, gtTup, gtCons, gtNil, iLst, iTp, qFor, TL.startT, List.replicate, List.map_cons, List.map_nil, List.length_cons, List.length_nil, List.cons_append, List.nil_append, List.append_nil, List.set_cons_succ, List.set_cons_zero, List.getElem?_cons_zero, List.getElem?_cons_succ, List.getD_cons_zero, List.getD_cons_succ, List.headD_cons, Option.isSome_some, Bool.not_true, Bool.not_false, Bool.false_eq_true, if_true, if_false, true_and, and_true, decide_eq_true_eq, decide_true, decide_false, Nat.zero_add, reduceIte, reduceCtorEq, eni, show decide (PySem.Str.ofString "is" = PySem.Str.ofString "not") = false from by decide]
      exact ⟨by rw [sizeLine_eq]; simp, fin 0 (by rw [if_neg (by decide)])⟩
    · simp only [qFrz_k, frzK_lst, frzK_dct, frzK_tup, qSeq, qIfS, qOr, qNot, qAnd, qTB, qCB, qCons, qNil, qTup, qLstF, qVar, qC, sl, bIsi, c2, c1, m0, m1, m2, res_tup, res_lst', res_int, res_str, res_bl, res_non, res_dct, res_ty, tyN, isStr, TL.isInt, TL.isTup, TL.isBool, TL.isLst, isN, isB, qIf, qChain, cLe, cLt, cGt, cGe, cEq, cNe, cEqV, cIn, cNotIn, cIsN, cNotN, n2, bLen, lenV, bInt, bTup, qNext, qRet, qRetN, qDrop, qAndV, qOrV, qNotV, qOp, aIx, ixV, idx, aSub, aMul, aMod, aFdiv, uNeg, riAdd, riSub, qCall, qAsg, gtName, gtTup, gtCons, gtNil, iLst, iTp, qFor, TL.startT, List.replicate, List.map_cons, List.map_nil, List.length_cons, List.length_nil, List.cons_append, List.nil_append, List.append_nil, List.set_cons_succ, List.set_cons_zero, List.getElem?_cons_zero, List.getElem?_cons_succ, List.getD_cons_zero, List.getD_cons_succ, List.headD_cons, Option.isSome_some, Bool.not_true, Bool.not_false, Bool.false_eq_true, if_true, if_false, true_and, and_true, decide_eq_true_eq, decide_true, decide_false, Nat.zero_add, reduceIte, reduceCtorEq]
      exact ⟨by rw [sizeLine_eq]; simp, fin 1 (by rw [if_pos rfl])⟩
  · rintro δ g' ⟨_, vs, a, rfl, hz, hv, rfl⟩
    simp only [qFrz_k, frzK_lst, frzK_dct, frzK_tup, qSeq, qIfS, qOr, qNot, qAnd, qTB, qCB, qCons, qNil, qTup, qLstF, qVar, qC, sl, bIsi, c2, c1, m0, m1, m2, res_tup, res_lst', res_int, res_str, res_bl, res_non, res_dct, res_ty, tyN, isStr, TL.isInt, TL.isTup, TL.isBool, TL.isLst, isN, isB, qIf, qChain, cLe, cLt, cGt, cGe, cEq, cNe, cEqV, cIn, cNotIn, cIsN, cNotN, n2, bLen, lenV, bInt, bTup, qNext, qRet, qRetN, qDrop, qAndV, qOrV, qNotV, qOp, aIx, ixV, idx, aSub, aMul, aMod, aFdiv, uNeg, riAdd, riSub, qCall, qAsg, gtName, gtTup, gtCons, gtNil, iLst, iTp, qFor, TL.startT, List.replicate, List.map_cons, List.map_nil, List.length_cons, List.length_nil, List.cons_append, List.nil_append, List.append_nil, List.set_cons_succ, List.set_cons_zero, List.getElem?_cons_zero, List.getElem?_cons_succ, List.getD_cons_zero, List.getD_cons_succ, List.headD_cons, Option.isSome_some, Bool.not_true, Bool.not_false, Bool.false_eq_true, if_true, if_false, true_and, and_true, decide_eq_true_eq, decide_true, decide_false, Nat.zero_add, reduceIte, reduceCtorEq]
    rw [frzK_putL hn]
    simp only [List.map_nil, List.append_nil] at hv
    rw [hv]
    exact q
end K82
set_option Elab.async false
set_option linter.all false
set_option maxRecDepth 100000
set_option maxHeartbeats 4000000
namespace K82
open PySem PySem.Spec L2 PyProof.Rows TL
theorem mem_enum : ∀ {ts : List T} {n : Nat} {t : T}, t ∈ enumT n ts → ∃ i u, t = .tup [.int ((i : Nat) : Int), u] ∧ i < n + ts.length ∧ u ∈ ts
  | [], _, _, h => by cases h
  | u :: ts, n, t, h => by
    simp only [enumT, List.mem_cons] at h
    rcases h with rfl | h
    · exact ⟨n, u, rfl, by simp, List.mem_cons_self ..⟩
    · obtain ⟨i, v, rfl, hi, hv⟩ := mem_enum h
      exact ⟨i, v, rfl, by simp only [List.length_cons]; omega, List.mem_cons_of_mem _ hv⟩
def RsOk (goal : T) (rs : List T) : Prop := (∀ r ∈ rs, Rl goal r) ∧ rs.length ≤ 8
def sp_two : TSp := fun ds g Q _ => ∃ goal rs, ds = [.lst rs] ∧ RsOk goal rs ∧ Q .non g
theorem p_two (ds : List T) (g : G) (Q : K1) (h : sp_two ds g Q noX) : t_two_of_one_shape sp_rshape { nx := fun _ g' => Q .non g', rt := Q } (TL.startT N_two_of_one_shape ds) g := by
  obtain ⟨goal, rs, rfl, ⟨hr, hl⟩, q⟩ := h
  unfold t_two_of_one_shape
  simp only [qFrz_k, frzK_lst, frzK_dct, frzK_tup, qSeq, qIfS, qOr, qNot, qAnd, qTB, qCB, qCons, qNil, qTup, qLstF, qVar, qC, sl, bIsi, c2, c1, m0, m1, m2, res_tup, res_lst', res_int, res_str, res_bl, res_non, res_dct, res_ty, tyN, isStr, TL.isInt, TL.isTup, TL.isBool, TL.isLst, isN, isB, qIf, qChain, cLe, cLt, cGt, cGe, cEq, cNe, cEqV, cIn, cNotIn, cIsN, cNotN, n2, bLen, lenV, bInt, bTup, qNext, qRet, qRetN, qDrop, qAndV, qOrV, qNotV, qOp, aIx, ixV, idx, aSub, aMul, aMod, aFdiv, uNeg, riAdd, riSub, qCall, qAsg, gtName, gtTup, gtCons, gtNil, iLst, iTp, qFor, TL.startT, List.replicate, List.map_cons, List.map_nil, List.length_cons, List.length_nil, List.cons_append, List.nil_append, List.append_nil, List.set_cons_succ, List.set_cons_zero, List.getElem?_cons_zero, List.getElem?_cons_succ, List.getD_cons_zero, List.getD_cons_succ, List.headD_cons, Option.isSome_some, Bool.not_true, Bool.not_false, Bool.false_eq_true, if_true, if_false, true_and, and_true, decide_eq_true_eq, decide_true, decide_false, Nat.zero_add, reduceIte, reduceCtorEq, TL.iEnum]
  refine wFor_I (fun us δ g' => g' = g ∧ (∀ u ∈ us, u ∈ enumT 0 rs) ∧ ∃ a b c d, δ = [some (.lst rs), a, b, c, d]) (fun _ _ _ _ => trivial) ?_ ?_ _ _ _ ⟨rfl, fun _ h => h, _, _, _, _, rfl⟩
  · rintro t us δ g' ⟨rfl, hm, a, b, c, d, rfl⟩ K hK
    obtain ⟨j, r, rfl, hj, hrm⟩ := mem_enum (hm t (List.mem_cons_self ..))
    obtain ⟨ps, rfl, _⟩ := (hr r hrm).ex
    simp only [qFrz_k, frzK_lst, frzK_dct, frzK_tup, qSeq, qIfS, qOr, qNot, qAnd, qTB, qCB, qCons, qNil, qTup, qLstF, qVar, qC, sl, bIsi, c2, c1, m0, m1, m2, res_tup, res_lst', res_int, res_str, res_bl, res_non, res_dct, res_ty, tyN, isStr, TL.isInt, TL.isTup, TL.isBool, TL.isLst, isN, isB, qIf, qChain, cLe, cLt, cGt, cGe, cEq, cNe, cEqV, cIn, cNotIn, cIsN, cNotN, n2, bLen, lenV, bInt, bTup, qNext, qRet, qRetN, qDrop, qAndV, qOrV, qNotV, qOp, aIx, ixV, idx, aSub, aMul, aMod, aFdiv, uNeg, riAdd, riSub, qCall, qAsg, gtName, gtTup, gtCons, gtNil, iLst, iTp, qFor, TL.startT, List.replicate, List.map_cons, List.map_nil, List.length_cons, List.length_nil, List.cons_append, List.nil_append, List.append_nil, List.set_cons_succ, List.set_cons_zero, List.getElem?_cons_zero, List.getElem?_cons_succ, List.getD_cons_zero, List.getD_cons_succ, List.headD_cons, Option.isSome_some, Bool.not_true, Bool.not_false, Bool.false_eq_true, if_true, if_false, true_and, and_true, decide_eq_true_eq, decide_true, decide_false, Nat.zero_add, reduceIte, reduceCtorEq, TL.iRng1]
    refine ⟨by omega, by omega, ?_⟩
    refine wFor_I (fun vs δ g'' => g'' = g' ∧ (∀ u ∈ vs, ∃ i : Nat, i < j ∧ u = .int (i : Int)) ∧ ∃ c d, δ = [some (.lst rs), some (.int (j : Int)), some (ruT goal ps), c, d]) (fun _ _ _ _ => trivial) ?_ ?_ _ _ _ ⟨rfl, ?_, _, _, rfl⟩
    · rintro t vs δ g'' ⟨rfl, hv, c, d, rfl⟩ K hK
      obtain ⟨i, hi, rfl⟩ := hv t (List.mem_cons_self ..)
      have hi2 : i < rs.length := by omega
      obtain ⟨ps2, e2, _⟩ := (hr rs[i] (List.getElem_mem hi2)).ex
      have e3 : rs[i]? = some (ruT goal ps2) := by rw [List.getElem?_eq_getElem hi2, e2]
      simp only [qFrz_k, frzK_lst, frzK_dct, frzK_tup, qSeq, qIfS, qOr, qNot, qAnd, qTB, qCB, qCons, qNil, qTup, qLstF, qVar, qC, sl, bIsi, c2, c1, m0, m1, m2, res_tup, res_lst', res_int, res_str, res_bl, res_non, res_dct, res_ty, tyN, isStr, TL.isInt, TL.isTup, TL.isBool, TL.isLst, isN, isB, qIf, qChain, cLe, cLt, cGt, cGe, cEq, cNe, cEqV, cIn, cNotIn, cIsN, cNotN, n2, bLen, lenV, bInt, bTup, qNext, qRet, qRetN, qDrop, qAndV, qOrV, qNotV, qOp, aIx, ixV, idx, aSub, aMul, aMod, aFdiv, uNeg, riAdd, riSub, qCall, qAsg, gtName, gtTup, gtCons, gtNil, iLst, iTp, qFor, TL.startT, List.replicate, List.map_cons, List.map_nil, List.length_cons, List.length_nil, List.cons_append, List.nil_append, List.append_nil, List.set_cons_succ, List.set_cons_zero, List.getElem?_cons_zero, List.getElem?_cons_succ, List.getD_cons_zero, List.getD_cons_succ, List.headD_cons, Option.isSome_some, Bool.not_true, Bool.not_false, Bool.false_eq_true, if_true, if_false, true_and, and_true, decide_eq_true_eq, decide_true, decide_false, Nat.zero_add, reduceIte, reduceCtorEq, ↓idx_nat, e3, ruT]
      exact hK _ _ ⟨rfl, fun u hu => hv u (List.mem_cons_of_mem _ hu), _, _, rfl⟩
    · rintro δ g'' ⟨rfl, hv, c, d, rfl⟩
      exact hK _ _ ⟨rfl, fun u hu => hm u (List.mem_cons_of_mem _ hu), _, _, _, _, rfl⟩
    · intro u hu
      simp only [TL.rangeT, List.mem_map, List.mem_range] at hu
      obtain ⟨i, hi, rfl⟩ := hu
      exact ⟨i, by omega, by rw [Int.zero_add]⟩
  · rintro δ g' ⟨rfl, hm, a, b, c, d, rfl⟩
    simp only [qFrz_k, frzK_lst, frzK_dct, frzK_tup, qSeq, qIfS, qOr, qNot, qAnd, qTB, qCB, qCons, qNil, qTup, qLstF, qVar, qC, sl, bIsi, c2, c1, m0, m1, m2, res_tup, res_lst', res_int, res_str, res_bl, res_non, res_dct, res_ty, tyN, isStr, TL.isInt, TL.isTup, TL.isBool, TL.isLst, isN, isB, qIf, qChain, cLe, cLt, cGt, cGe, cEq, cNe, cEqV, cIn, cNotIn, cIsN, cNotN, n2, bLen, lenV, bInt, bTup, qNext, qRet, qRetN, qDrop, qAndV, qOrV, qNotV, qOp, aIx, ixV, idx, aSub, aMul, aMod, aFdiv, uNeg, riAdd, riSub, qCall, qAsg, gtName, gtTup, gtCons, gtNil, iLst, iTp, qFor, TL.startT, List.replicate, List.map_cons, List.map_nil, List.length_cons, List.length_nil, List.cons_append, List.nil_append, List.append_nil, List.set_cons_succ, List.set_cons_zero, List.getElem?_cons_zero, List.getElem?_cons_succ, List.getD_cons_zero, List.getD_cons_succ, List.headD_cons, Option.isSome_some, Bool.not_true, Bool.not_false, Bool.false_eq_true, if_true, if_false, true_and, and_true, decide_eq_true_eq, decide_true, decide_false, Nat.zero_add, reduceIte, reduceCtorEq]
    exact q
/-! ### ways, rings, bars -/
def sp_way : TSp := fun ds g Q _ => ∃ goal rs s2, ds = [.lst rs, shT goal, s2] ∧ RsOk goal rs ∧ Fc goal ∧ tupK s2 = true ∧ s2 ≠ shT goal ∧ ∀ g', Sub g g' → Q .non g'
theorem rshape_ok {goal : T} {ps : List T} (hg : Fc goal) {g : G} {Q : K1} (q : Q (shT goal) g) : sp_rshape [ruT goal ps] g Q noX := by
  obtain ⟨x, r, rfl, _, hl, _⟩ := hg.sh
  exact ⟨rfl, ⟨.str x, r, .tup ps, rfl, by rw [sizeLine_eq]; omega⟩, q⟩
theorem p_way (ds : List T) (g : G) (Q : K1) (h : sp_way ds g Q noX) : t_way_of_rules sp_rshape sp_looked { nx := fun _ g' => Q .non g', rt := Q } (TL.startT N_way_of_rules ds) g := by
  obtain ⟨goal, rs, s2, rfl, ⟨hr, hl⟩, hg, hk, hne, q⟩ := h
  unfold t_way_of_rules
  simp only [qFrz_k, frzK_lst, frzK_dct, frzK_tup, qSeq, qIfS, qOr, qNot, qAnd, qTB, qCB, qCons, qNil, qTup, qLstF, qVar, qC, sl, bIsi, c2, c1, m0, m1, m2, res_tup, res_lst', res_int, res_str, res_bl, res_non, res_dct, res_ty, tyN, isStr, TL.isInt, TL.isTup, TL.isBool, TL.isLst, isN, isB, qIf, qChain, cLe, cLt, cGt, cGe, cEq, cNe, cEqV, cIn, cNotIn, cIsN, cNotN, n2, bLen, lenV, bInt, bTup, qNext, qRet, qRetN, qDrop, qAndV, qOrV, qNotV, qOp, aIx, ixV, idx, aSub, aMul, aMod, aFdiv, uNeg, riAdd, riSub, qCall, qAsg, gtName, gtTup, gtCons, gtNil, iLst, iTp, qFor, TL.startT, List.replicate, List.map_cons, List.map_nil, List.length_cons, List.length_nil, List.cons_append, List.nil_append, List.append_nil, List.set_cons_succ, List.set_cons_zero, List.getElem?_cons_zero, List.getElem?_cons_succ, List.getD_cons_zero, List.getD_cons_succ, List.headD_cons, Option.isSome_some, Bool.not_true, Bool.not_false, Bool.false_eq_true, if_true, if_false, true_and, and_true, decide_eq_true_eq, decide_true, decide_false, Nat.zero_add, reduceIte, reduceCtorEq, qDict1]
  intro p hp
  refine ⟨Nat.zero_le _, hg.shK, gput_same, ?_⟩
  rw [gput_put]
  simp only [qFrz_k, frzK_lst, frzK_dct, frzK_tup, qSeq, qIfS, qOr, qNot, qAnd, qTB, qCB, qCons, qNil, qTup, qLstF, qVar, qC, sl, bIsi, c2, c1, m0, m1, m2, res_tup, res_lst', res_int, res_str, res_bl, res_non, res_dct, res_ty, tyN, isStr, TL.isInt, TL.isTup, TL.isBool, TL.isLst, isN, isB, qIf, qChain, cLe, cLt, cGt, cGe, cEq, cNe, cEqV, cIn, cNotIn, cIsN, cNotN, n2, bLen, lenV, bInt, bTup, qNext, qRet, qRetN, qDrop, qAndV, qOrV, qNotV, qOp, aIx, ixV, idx, aSub, aMul, aMod, aFdiv, uNeg, riAdd, riSub, qCall, qAsg, gtName, gtTup, gtCons, gtNil, iLst, iTp, qFor, TL.startT, List.replicate, List.map_cons, List.map_nil, List.length_cons, List.length_nil, List.cons_append, List.nil_append, List.append_nil, List.set_cons_succ, List.set_cons_zero, List.getElem?_cons_zero, List.getElem?_cons_succ, List.getD_cons_zero, List.getD_cons_succ, List.headD_cons, Option.isSome_some, Bool.not_true, Bool.not_false, Bool.false_eq_true, if_true, if_false, true_and, and_true, decide_eq_true_eq, decide_true, decide_false, Nat.zero_add, reduceIte, reduceCtorEq, qLst]
  refine ⟨by rw [sizeLine_eq]; omega, fun p4 hp4 => ?_⟩
  have hn4 : p4 ≠ p := fun z => by rw [z, gput_same] at hp4; cases hp4
  have hp4' : g p4 = none := by rw [gput_ne hn4] at hp4; exact hp4
  simp only [qFrz_k, frzK_lst, frzK_dct, frzK_tup, qSeq, qIfS, qOr, qNot, qAnd, qTB, qCB, qCons, qNil, qTup, qLstF, qVar, qC, sl, bIsi, c2, c1, m0, m1, m2, res_tup, res_lst', res_int, res_str, res_bl, res_non, res_dct, res_ty, tyN, isStr, TL.isInt, TL.isTup, TL.isBool, TL.isLst, isN, isB, qIf, qChain, cLe, cLt, cGt, cGe, cEq, cNe, cEqV, cIn, cNotIn, cIsN, cNotN, n2, bLen, lenV, bInt, bTup, qNext, qRet, qRetN, qDrop, qAndV, qOrV, qNotV, qOp, aIx, ixV, idx, aSub, aMul, aMod, aFdiv, uNeg, riAdd, riSub, qCall, qAsg, gtName, gtTup, gtCons, gtNil, iLst, iTp, qFor, TL.startT, List.replicate, List.map_cons, List.map_nil, List.length_cons, List.length_nil, List.cons_append, List.nil_append, List.append_nil, List.set_cons_succ, List.set_cons_zero, List.getElem?_cons_zero, List.getElem?_cons_succ, List.getD_cons_zero, List.getD_cons_succ, List.headD_cons, Option.isSome_some, Bool.not_true, Bool.not_false, Bool.false_eq_true, if_true, if_false, true_and, and_true, decide_eq_true_eq, decide_true, decide_false, Nat.zero_add, reduceIte, reduceCtorEq, qWhile]
  have s1 : Sub g (gput (gput g p (.dct [(shT goal, .tup [])])) p4 (.lst [shT goal])) := (sub_put hp).trans (sub_put hp4)
  generalize hG : gput (gput g p (.dct [(shT goal, .tup [])])) p4 (.lst [shT goal]) = G1
  have e4 : G1 p4 = some (.lst [shT goal]) := by rw [← hG, gput_same]
  have ep : G1 p = some (.dct [(shT goal, .tup [])]) := by rw [← hG, gput_ne hn4.symm, gput_same]
  rw [hG] at s1
  refine ⟨2, wWhile_I (fun n δ g' => g' = G1 ∧ ∃ b c d e f, δ = [some (.lst rs), some (shT goal), some s2, some (.ref p), some (.ref p4), some (.int b), c, d, e, f, none] ∧ ((n = 1 ∧ b = 0) ∨ (n = 0 ∧ b = 1))) ?_ _ _ _ ⟨rfl, _, _, _, _, _, rfl, .inl ⟨rfl, rfl⟩⟩⟩
  rintro n δ g' ⟨rfl, b, c, d, e, f, rfl, ⟨rfl, rfl⟩ | ⟨rfl, rfl⟩⟩
  · refine ⟨true, g', fun R hR => ?_, ?_⟩
    · simp only [qFrz_k, frzK_lst, frzK_dct, frzK_tup, qSeq, qIfS, qOr, qNot, qAnd, qTB, qCB, qCons, qNil, qTup, qLstF, qVar, qC, sl, bIsi, c2, c1, m0, m1, m2, res_tup, res_lst', res_int, res_str, res_bl, res_non, res_dct, res_ty, tyN, isStr, TL.isInt, TL.isTup, TL.isBool, TL.isLst, isN, isB, qIf, qChain, cLe, cLt, cGt, cGe, cEq, cNe, cEqV, cIn, cNotIn, cIsN, cNotN, n2, bLen, lenV, bInt, bTup, qNext, qRet, qRetN, qDrop, qAndV, qOrV, qNotV, qOp, aIx, ixV, idx, aSub, aMul, aMod, aFdiv, uNeg, riAdd, riSub, qCall, qAsg, gtName, gtTup, gtCons, gtNil, iLst, iTp, qFor, TL.startT, List.replicate, List.map_cons, List.map_nil, List.length_cons, List.length_nil, List.cons_append, List.nil_append, List.append_nil, List.set_cons_succ, List.set_cons_zero, List.getElem?_cons_zero, List.getElem?_cons_succ, List.getD_cons_zero, List.getD_cons_succ, List.headD_cons, Option.isSome_some, Bool.not_true, Bool.not_false, Bool.false_eq_true, if_true, if_false, true_and, and_true, decide_eq_true_eq, decide_true, decide_false, Nat.zero_add, reduceIte, reduceCtorEq, res_refL e4]
      exact hR
    · simp only [if_true]
      refine ⟨0, rfl, fun K hK => ?_⟩
      simp only [qFrz_k, frzK_lst, frzK_dct, frzK_tup, qSeq, qIfS, qOr, qNot, qAnd, qTB, qCB, qCons, qNil, qTup, qLstF, qVar, qC, sl, bIsi, c2, c1, m0, m1, m2, res_tup, res_lst', res_int, res_str, res_bl, res_non, res_dct, res_ty, tyN, isStr, TL.isInt, TL.isTup, TL.isBool, TL.isLst, isN, isB, qIf, qChain, cLe, cLt, cGt, cGe, cEq, cNe, cEqV, cIn, cNotIn, cIsN, cNotN, n2, bLen, lenV, bInt, bTup, qNext, qRet, qRetN, qDrop, qAndV, qOrV, qNotV, qOp, aIx, ixV, idx, aSub, aMul, aMod, aFdiv, uNeg, riAdd, riSub, qCall, qAsg, gtName, gtTup, gtCons, gtNil, iLst, iTp, qFor, TL.startT, List.replicate, List.map_cons, List.map_nil, List.length_cons, List.length_nil, List.cons_append, List.nil_append, List.append_nil, List.set_cons_succ, List.set_cons_zero, List.getElem?_cons_zero, List.getElem?_cons_succ, List.getD_cons_zero, List.getD_cons_succ, List.headD_cons, Option.isSome_some, Bool.not_true, Bool.not_false, Bool.false_eq_true, if_true, if_false, true_and, and_true, decide_eq_true_eq, decide_true, decide_false, Nat.zero_add, reduceIte, reduceCtorEq, TL.iEnum]
      refine wFor_I (fun us δ g'' => g'' = g' ∧ (∀ u ∈ us, u ∈ enumT 0 rs) ∧ ∃ c d e f, δ = [some (.lst rs), some (shT goal), some s2, some (.ref p), some (.ref p4), some (.int 0), c, d, e, f, none]) (fun _ _ _ _ => trivial) ?_ ?_ _ _ _ ⟨rfl, fun _ h => h, _, _, _, _, rfl⟩
      · rintro t us δ g'' ⟨rfl, hm, c, d, e, f, rfl⟩ K hK
        obtain ⟨j, r, rfl, hj, hrm⟩ := mem_enum (hm t (List.mem_cons_self ..))
        obtain ⟨ps, rfl, _⟩ := (hr r hrm).ex
        simp only [qFrz_k, frzK_lst, frzK_dct, frzK_tup, qSeq, qIfS, qOr, qNot, qAnd, qTB, qCB, qCons, qNil, qTup, qLstF, qVar, qC, sl, bIsi, c2, c1, m0, m1, m2, res_tup, res_lst', res_int, res_str, res_bl, res_non, res_dct, res_ty, tyN, isStr, TL.isInt, TL.isTup, TL.isBool, TL.isLst, isN, isB, qIf, qChain, cLe, cLt, cGt, cGe, cEq, cNe, cEqV, cIn, cNotIn, cIsN, cNotN, n2, bLen, lenV, bInt, bTup, qNext, qRet, qRetN, qDrop, qAndV, qOrV, qNotV, qOp, aIx, ixV, idx, aSub, aMul, aMod, aFdiv, uNeg, riAdd, riSub, qCall, qAsg, gtName, gtTup, gtCons, gtNil, iLst, iTp, qFor, TL.startT, List.replicate, List.map_cons, List.map_nil, List.length_cons, List.length_nil, List.cons_append, List.nil_append, List.append_nil, List.set_cons_succ, List.set_cons_zero, List.getElem?_cons_zero, List.getElem?_cons_succ, List.getD_cons_zero, List.getD_cons_succ, List.headD_cons, Option.isSome_some, Bool.not_true, Bool.not_false, Bool.false_eq_true, if_true, if_false, true_and, and_true, decide_eq_true_eq, decide_true, decide_false, Nat.zero_add, reduceIte, reduceCtorEq]
        refine rshape_ok hg ?_
        have er : res g'' (shT goal) = shT goal := by obtain ⟨x, r, _, _, _, e⟩ := hg.sh; rw [e]; rfl
        simp only [qFrz_k, frzK_lst, frzK_dct, frzK_tup, qSeq, qIfS, qOr, qNot, qAnd, qTB, qCB, qCons, qNil, qTup, qLstF, qVar, qC, sl, bIsi, c2, c1, m0, m1, m2, res_tup, res_lst', res_int, res_str, res_bl, res_non, res_dct, res_ty, tyN, isStr, TL.isInt, TL.isTup, TL.isBool, TL.isLst, isN, isB, qIf, qChain, cLe, cLt, cGt, cGe, cEq, cNe, cEqV, cIn, cNotIn, cIsN, cNotN, n2, bLen, lenV, bInt, bTup, qNext, qRet, qRetN, qDrop, qAndV, qOrV, qNotV, qOp, aIx, ixV, idx, aSub, aMul, aMod, aFdiv, uNeg, riAdd, riSub, qCall, qAsg, gtName, gtTup, gtCons, gtNil, iLst, iTp, qFor, TL.startT, List.replicate, List.map_cons, List.map_nil, List.length_cons, List.length_nil, List.cons_append, List.nil_append, List.append_nil, List.set_cons_succ, List.set_cons_zero, List.getElem?_cons_zero, List.getElem?_cons_succ, List.getD_cons_zero, List.getD_cons_succ, List.headD_cons, Option.isSome_some, Bool.not_true, Bool.not_false, Bool.false_eq_true, if_true, if_false, true_and, and_true, decide_eq_true_eq, decide_true, decide_false, Nat.zero_add, reduceIte, reduceCtorEq, er, res_refD ep]
        refine ⟨kOk_t hg.shK (by simp [hg.shK]), ?_⟩
        have el : (look [(shT goal, T.tup [])] (shT goal)).isSome = true := by rw [look_pos rfl]; rfl
        simp only [el]
        simp only [qFrz_k, frzK_lst, frzK_dct, frzK_tup, qSeq, qIfS, qOr, qNot, qAnd, qTB, qCB, qCons, qNil, qTup, qLstF, qVar, qC, sl, bIsi, c2, c1, m0, m1, m2, res_tup, res_lst', res_int, res_str, res_bl, res_non, res_dct, res_ty, tyN, isStr, TL.isInt, TL.isTup, TL.isBool, TL.isLst, isN, isB, qIf, qChain, cLe, cLt, cGt, cGe, cEq, cNe, cEqV, cIn, cNotIn, cIsN, cNotN, n2, bLen, lenV, bInt, bTup, qNext, qRet, qRetN, qDrop, qAndV, qOrV, qNotV, qOp, aIx, ixV, idx, aSub, aMul, aMod, aFdiv, uNeg, riAdd, riSub, qCall, qAsg, gtName, gtTup, gtCons, gtNil, iLst, iTp, qFor, TL.startT, List.replicate, List.map_cons, List.map_nil, List.length_cons, List.length_nil, List.cons_append, List.nil_append, List.append_nil, List.set_cons_succ, List.set_cons_zero, List.getElem?_cons_zero, List.getElem?_cons_succ, List.getD_cons_zero, List.getD_cons_succ, List.headD_cons, Option.isSome_some, Bool.not_true, Bool.not_false, Bool.false_eq_true, if_true, if_false, true_and, and_true, decide_eq_true_eq, decide_true, decide_false, Nat.zero_add, reduceIte, reduceCtorEq]
        exact hK _ _ ⟨rfl, fun u hu => hm u (List.mem_cons_of_mem _ hu), _, _, _, _, rfl⟩
      · rintro δ g'' ⟨rfl, hm, c, d, e, f, rfl⟩
        simp only [qFrz_k, frzK_lst, frzK_dct, frzK_tup, qSeq, qIfS, qOr, qNot, qAnd, qTB, qCB, qCons, qNil, qTup, qLstF, qVar, qC, sl, bIsi, c2, c1, m0, m1, m2, res_tup, res_lst', res_int, res_str, res_bl, res_non, res_dct, res_ty, tyN, isStr, TL.isInt, TL.isTup, TL.isBool, TL.isLst, isN, isB, qIf, qChain, cLe, cLt, cGt, cGe, cEq, cNe, cEqV, cIn, cNotIn, cIsN, cNotN, n2, bLen, lenV, bInt, bTup, qNext, qRet, qRetN, qDrop, qAndV, qOrV, qNotV, qOp, aIx, ixV, idx, aSub, aMul, aMod, aFdiv, uNeg, riAdd, riSub, qCall, qAsg, gtName, gtTup, gtCons, gtNil, iLst, iTp, qFor, TL.startT, List.replicate, List.map_cons, List.map_nil, List.length_cons, List.length_nil, List.cons_append, List.nil_append, List.append_nil, List.set_cons_succ, List.set_cons_zero, List.getElem?_cons_zero, List.getElem?_cons_succ, List.getD_cons_zero, List.getD_cons_succ, List.headD_cons, Option.isSome_some, Bool.not_true, Bool.not_false, Bool.false_eq_true, if_true, if_false, true_and, and_true, decide_eq_true_eq, decide_true, decide_false, Nat.zero_add, reduceIte, reduceCtorEq, qAug]
        exact hK _ _ ⟨rfl, _, _, _, _, _, rfl, .inr ⟨rfl, rfl⟩⟩
  · refine ⟨false, g', fun R hR => ?_, ?_⟩
    · simp only [qFrz_k, frzK_lst, frzK_dct, frzK_tup, qSeq, qIfS, qOr, qNot, qAnd, qTB, qCB, qCons, qNil, qTup, qLstF, qVar, qC, sl, bIsi, c2, c1, m0, m1, m2, res_tup, res_lst', res_int, res_str, res_bl, res_non, res_dct, res_ty, tyN, isStr, TL.isInt, TL.isTup, TL.isBool, TL.isLst, isN, isB, qIf, qChain, cLe, cLt, cGt, cGe, cEq, cNe, cEqV, cIn, cNotIn, cIsN, cNotN, n2, bLen, lenV, bInt, bTup, qNext, qRet, qRetN, qDrop, qAndV, qOrV, qNotV, qOp, aIx, ixV, idx, aSub, aMul, aMod, aFdiv, uNeg, riAdd, riSub, qCall, qAsg, gtName, gtTup, gtCons, gtNil, iLst, iTp, qFor, TL.startT, List.replicate, List.map_cons, List.map_nil, List.length_cons, List.length_nil, List.cons_append, List.nil_append, List.append_nil, List.set_cons_succ, List.set_cons_zero, List.getElem?_cons_zero, List.getElem?_cons_succ, List.getD_cons_zero, List.getD_cons_succ, List.headD_cons, Option.isSome_some, Bool.not_true, Bool.not_false, Bool.false_eq_true, if_true, if_false, true_and, and_true, decide_eq_true_eq, decide_true, decide_false, Nat.zero_add, reduceIte, reduceCtorEq, res_refL e4]
      exact hR
    · simp only [qFrz_k, frzK_lst, frzK_dct, frzK_tup, qSeq, qIfS, qOr, qNot, qAnd, qTB, qCB, qCons, qNil, qTup, qLstF, qVar, qC, sl, bIsi, c2, c1, m0, m1, m2, res_tup, res_lst', res_int, res_str, res_bl, res_non, res_dct, res_ty, tyN, isStr, TL.isInt, TL.isTup, TL.isBool, TL.isLst, isN, isB, qIf, qChain, cLe, cLt, cGt, cGe, cEq, cNe, cEqV, cIn, cNotIn, cIsN, cNotN, n2, bLen, lenV, bInt, bTup, qNext, qRet, qRetN, qDrop, qAndV, qOrV, qNotV, qOp, aIx, ixV, idx, aSub, aMul, aMod, aFdiv, uNeg, riAdd, riSub, qCall, qAsg, gtName, gtTup, gtCons, gtNil, iLst, iTp, qFor, TL.startT, List.replicate, List.map_cons, List.map_nil, List.length_cons, List.length_nil, List.cons_append, List.nil_append, List.append_nil, List.set_cons_succ, List.set_cons_zero, List.getElem?_cons_zero, List.getElem?_cons_succ, List.getD_cons_zero, List.getD_cons_succ, List.headD_cons, Option.isSome_some, Bool.not_true, Bool.not_false, Bool.false_eq_true, if_true, if_false, true_and, and_true, decide_eq_true_eq, decide_true, decide_false, Nat.zero_add, reduceIte, reduceCtorEq, qBM, mGet1, res_refD ep]
      refine ⟨rfl, kOk_t hk (by simp [hg.shK]), ?_⟩
      rw [look_neg (fun z => hne z.symm), look_nil]
      exact q _ s1
end K82
set_option Elab.async false
set_option linter.all false
set_option maxRecDepth 100000
set_option maxHeartbeats 4000000
namespace K82
open PySem PySem.Spec L2 PyProof.Rows TL
theorem Rl.looks {goal r t : T} (h : Rl goal r) (ht : t ∈ lkR r) : ∃ w a, Fc a ∧ shT a ≠ shT goal ∧ t = .tup [shT a, .int (if w = ("not" : PySem.Str) then 1 else 0)] := by
  obtain ⟨ps, rfl, hp, _⟩ := h.ex
  obtain ⟨p, hp2, rfl⟩ := List.mem_map.mp ht
  obtain ⟨w, a, ⟨rfl, _⟩, hf, hn⟩ := hp p hp2
  exact ⟨w, a, hf, hn, rfl⟩
def sp_none : TSp := fun ds g Q _ => ∃ goal rs, ds = [.lst rs] ∧ RsOk goal rs ∧ Fc goal ∧ ∀ g', Sub g g' → Q .non g'
theorem p_ring (ds : List T) (g : G) (Q : K1) (h : sp_none ds g Q noX) : t_ring_of_rules sp_looked sp_way sp_rshape { nx := fun _ g' => Q .non g', rt := Q } (TL.startT N_ring_of_rules ds) g := by
  obtain ⟨goal, rs, rfl, hR, hg, q⟩ := h
  unfold t_ring_of_rules
  simp only [qFrz_k, frzK_lst, frzK_dct, frzK_tup, qSeq, qIfS, qOr, qNot, qAnd, qTB, qCB, qCons, qNil, qTup, qLstF, qVar, qC, sl, bIsi, c2, c1, m0, m1, m2, res_tup, res_lst', res_int, res_str, res_bl, res_non, res_dct, res_ty, tyN, isStr, TL.isInt, TL.isTup, TL.isBool, TL.isLst, isN, isB, qIf, qChain, cLe, cLt, cGt, cGe, cEq, cNe, cEqV, cIn, cNotIn, cIsN, cNotN, n2, bLen, lenV, bInt, bTup, qNext, qRet, qRetN, qDrop, qAndV, qOrV, qNotV, qOp, aIx, ixV, idx, aSub, aMul, aMod, aFdiv, uNeg, riAdd, riSub, qCall, qAsg, gtName, gtTup, gtCons, gtNil, iLst, iTp, qFor, TL.startT, List.replicate, List.map_cons, List.map_nil, List.length_cons, List.length_nil, List.cons_append, List.nil_append, List.append_nil, List.set_cons_succ, List.set_cons_zero, List.getElem?_cons_zero, List.getElem?_cons_succ, List.getD_cons_zero, List.getD_cons_succ, List.headD_cons, Option.isSome_some, Bool.not_true, Bool.not_false, Bool.false_eq_true, if_true, if_false, true_and, and_true, decide_eq_true_eq, decide_true, decide_false, Nat.zero_add, reduceIte, reduceCtorEq, TL.iEnum]
  refine wFor_I (fun us δ g' => Sub g g' ∧ (∀ u ∈ us, u ∈ enumT 0 rs) ∧ ∃ a b c d e, δ = [some (.lst rs), a, b, c, d, e]) (fun _ _ _ _ => trivial) ?_ ?_ _ _ _ ⟨Sub.refl, fun _ h => h, _, _, _, _, _, rfl⟩
  · rintro t us δ g' ⟨hs, hm, a, b, c, d, e, rfl⟩ K hK
    obtain ⟨j, r, rfl, hj, hrm⟩ := mem_enum (hm t (List.mem_cons_self ..))
    have hl := hR.1 r hrm
    try simp only [qFrz_k, frzK_lst, frzK_dct, frzK_tup, qSeq, qIfS, qOr, qNot, qAnd, qTB, qCB, qCons, qNil, qTup, qLstF, qVar, qC, sl, bIsi, c2, c1, m0, m1, m2, res_tup, res_lst', res_int, res_str, res_bl, res_non, res_dct, res_ty, tyN, isStr, TL.isInt, TL.isTup, TL.isBool, TL.isLst, isN, isB, qIf, qChain, cLe, cLt, cGt, cGe, cEq, cNe, cEqV, cIn, cNotIn, cIsN, cNotN, n2, bLen, lenV, bInt, bTup, qNext, qRet, qRetN, qDrop, qAndV, qOrV, qNotV, qOp, aIx, ixV, idx, aSub, aMul, aMod, aFdiv, uNeg, riAdd, riSub, qCall, qAsg, gtName, gtTup, gtCons, gtNil, iLst, iTp, qFor, TL.startT, List.replicate, List.map_cons, List.map_nil, List.length_cons, List.length_nil, List.cons_append, List.nil_append, List.append_nil, List.set_cons_succ, List.set_cons_zero, List.getElem?_cons_zero, List.getElem?_cons_succ, List.getD_cons_zero, List.getD_cons_succ, List.headD_cons, Option.isSome_some, Bool.not_true, Bool.not_false, Bool.false_eq_true, if_true, if_false, true_and, and_true, decide_eq_true_eq, decide_true, decide_false, Nat.zero_add, reduceIte, reduceCtorEq, iLst]
    refine ⟨goal, r, rfl, hl, ?_⟩
    refine wFor_I (fun us δ g' => Sub g g' ∧ (∀ u ∈ us, u ∈ lkR r) ∧ ∃ c d e, δ = [some (.lst rs), some (.int (j : Int)), some r, c, d, e]) (fun _ _ _ _ => trivial) ?_ ?_ _ _ _ ⟨hs, fun _ h => h, _, _, _, rfl⟩
    · rintro t us δ g' ⟨hs, hm, c, d, e, rfl⟩ K hK
      obtain ⟨w, f, hf, hn, rfl⟩ := hl.looks (hm t (List.mem_cons_self ..))
      obtain ⟨ps, e2, _⟩ := hl.ex
      simp only [qFrz_k, frzK_lst, frzK_dct, frzK_tup, qSeq, qIfS, qOr, qNot, qAnd, qTB, qCB, qCons, qNil, qTup, qLstF, qVar, qC, sl, bIsi, c2, c1, m0, m1, m2, res_tup, res_lst', res_int, res_str, res_bl, res_non, res_dct, res_ty, tyN, isStr, TL.isInt, TL.isTup, TL.isBool, TL.isLst, isN, isB, qIf, qChain, cLe, cLt, cGt, cGe, cEq, cNe, cEqV, cIn, cNotIn, cIsN, cNotN, n2, bLen, lenV, bInt, bTup, qNext, qRet, qRetN, qDrop, qAndV, qOrV, qNotV, qOp, aIx, ixV, idx, aSub, aMul, aMod, aFdiv, uNeg, riAdd, riSub, qCall, qAsg, gtName, gtTup, gtCons, gtNil, iLst, iTp, qFor, TL.startT, List.replicate, List.map_cons, List.map_nil, List.length_cons, List.length_nil, List.cons_append, List.nil_append, List.append_nil, List.set_cons_succ, List.set_cons_zero, List.getElem?_cons_zero, List.getElem?_cons_succ, List.getD_cons_zero, List.getD_cons_succ, List.headD_cons, Option.isSome_some, Bool.not_true, Bool.not_false, Bool.false_eq_true, if_true, if_false, true_and, and_true, decide_eq_true_eq, decide_true, decide_false, Nat.zero_add, reduceIte, reduceCtorEq]
      by_cases hw : w = "not"
      · simp only [hw, if_true]
        rw [if_pos (by decide), e2]
        refine rshape_ok hg ?_
        refine ⟨goal, rs, shT f, rfl, hR, hg, hf.shK, hn, fun g'' hs2 => ?_⟩
        simp only [qFrz_k, frzK_lst, frzK_dct, frzK_tup, qSeq, qIfS, qOr, qNot, qAnd, qTB, qCB, qCons, qNil, qTup, qLstF, qVar, qC, sl, bIsi, c2, c1, m0, m1, m2, res_tup, res_lst', res_int, res_str, res_bl, res_non, res_dct, res_ty, tyN, isStr, TL.isInt, TL.isTup, TL.isBool, TL.isLst, isN, isB, qIf, qChain, cLe, cLt, cGt, cGe, cEq, cNe, cEqV, cIn, cNotIn, cIsN, cNotN, n2, bLen, lenV, bInt, bTup, qNext, qRet, qRetN, qDrop, qAndV, qOrV, qNotV, qOp, aIx, ixV, idx, aSub, aMul, aMod, aFdiv, uNeg, riAdd, riSub, qCall, qAsg, gtName, gtTup, gtCons, gtNil, iLst, iTp, qFor, TL.startT, List.replicate, List.map_cons, List.map_nil, List.length_cons, List.length_nil, List.cons_append, List.nil_append, List.append_nil, List.set_cons_succ, List.set_cons_zero, List.getElem?_cons_zero, List.getElem?_cons_succ, List.getD_cons_zero, List.getD_cons_succ, List.headD_cons, Option.isSome_some, Bool.not_true, Bool.not_false, Bool.false_eq_true, if_true, if_false, true_and, and_true, decide_eq_true_eq, decide_true, decide_false, Nat.zero_add, reduceIte, reduceCtorEq]
        rw [← e2]
        exact hK _ _ ⟨hs.trans hs2, fun u hu => hm u (List.mem_cons_of_mem _ hu), _, _, _, rfl⟩
      · simp only [hw, if_false]
        rw [if_neg (by decide)]
        exact hK _ _ ⟨hs, fun u hu => hm u (List.mem_cons_of_mem _ hu), _, _, _, rfl⟩
    · rintro δ g' ⟨hs, _, c, d, e, rfl⟩
      exact hK _ _ ⟨hs, fun u hu => hm u (List.mem_cons_of_mem _ hu), _, _, _, _, _, rfl⟩
  · rintro δ g' ⟨hs, hm, a, b, c, d, e, rfl⟩
    exact q _ hs
theorem p_bar (ds : List T) (g : G) (Q : K1) (h : sp_none ds g Q noX) : t_bar sp_two sp_none { nx := fun _ g' => Q .non g', rt := Q } (TL.startT N_bar ds) g := by
  obtain ⟨goal, rs, rfl, hR, hg, q⟩ := h
  unfold t_bar
  simp only [qFrz_k, frzK_lst, frzK_dct, frzK_tup, qSeq, qIfS, qOr, qNot, qAnd, qTB, qCB, qCons, qNil, qTup, qLstF, qVar, qC, sl, bIsi, c2, c1, m0, m1, m2, res_tup, res_lst', res_int, res_str, res_bl, res_non, res_dct, res_ty, tyN, isStr, TL.isInt, TL.isTup, TL.isBool, TL.isLst, isN, isB, qIf, qChain, cLe, cLt, cGt, cGe, cEq, cNe, cEqV, cIn, cNotIn, cIsN, cNotN, n2, bLen, lenV, bInt, bTup, qNext, qRet, qRetN, qDrop, qAndV, qOrV, qNotV, qOp, aIx, ixV, idx, aSub, aMul, aMod, aFdiv, uNeg, riAdd, riSub, qCall, qAsg, gtName, gtTup, gtCons, gtNil, iLst, iTp, qFor, TL.startT, List.replicate, List.map_cons, List.map_nil, List.length_cons, List.length_nil, List.cons_append, List.nil_append, List.append_nil, List.set_cons_succ, List.set_cons_zero, List.getElem?_cons_zero, List.getElem?_cons_succ, List.getD_cons_zero, List.getD_cons_succ, List.headD_cons, Option.isSome_some, Bool.not_true, Bool.not_false, Bool.false_eq_true, if_true, if_false, true_and, and_true, decide_eq_true_eq, decide_true, decide_false, Nat.zero_add, reduceIte, reduceCtorEq]
  refine ⟨goal, rs, rfl, hR, ?_⟩
  simp only [qFrz_k, frzK_lst, frzK_dct, frzK_tup, qSeq, qIfS, qOr, qNot, qAnd, qTB, qCB, qCons, qNil, qTup, qLstF, qVar, qC, sl, bIsi, c2, c1, m0, m1, m2, res_tup, res_lst', res_int, res_str, res_bl, res_non, res_dct, res_ty, tyN, isStr, TL.isInt, TL.isTup, TL.isBool, TL.isLst, isN, isB, qIf, qChain, cLe, cLt, cGt, cGe, cEq, cNe, cEqV, cIn, cNotIn, cIsN, cNotN, n2, bLen, lenV, bInt, bTup, qNext, qRet, qRetN, qDrop, qAndV, qOrV, qNotV, qOp, aIx, ixV, idx, aSub, aMul, aMod, aFdiv, uNeg, riAdd, riSub, qCall, qAsg, gtName, gtTup, gtCons, gtNil, iLst, iTp, qFor, TL.startT, List.replicate, List.map_cons, List.map_nil, List.length_cons, List.length_nil, List.cons_append, List.nil_append, List.append_nil, List.set_cons_succ, List.set_cons_zero, List.getElem?_cons_zero, List.getElem?_cons_succ, List.getD_cons_zero, List.getD_cons_succ, List.headD_cons, Option.isSome_some, Bool.not_true, Bool.not_false, Bool.false_eq_true, if_true, if_false, true_and, and_true, decide_eq_true_eq, decide_true, decide_false, Nat.zero_add, reduceIte, reduceCtorEq]
  refine ⟨goal, rs, rfl, hR, hg, fun g' hs => ?_⟩
  simp only [qFrz_k, frzK_lst, frzK_dct, frzK_tup, qSeq, qIfS, qOr, qNot, qAnd, qTB, qCB, qCons, qNil, qTup, qLstF, qVar, qC, sl, bIsi, c2, c1, m0, m1, m2, res_tup, res_lst', res_int, res_str, res_bl, res_non, res_dct, res_ty, tyN, isStr, TL.isInt, TL.isTup, TL.isBool, TL.isLst, isN, isB, qIf, qChain, cLe, cLt, cGt, cGe, cEq, cNe, cEqV, cIn, cNotIn, cIsN, cNotN, n2, bLen, lenV, bInt, bTup, qNext, qRet, qRetN, qDrop, qAndV, qOrV, qNotV, qOp, aIx, ixV, idx, aSub, aMul, aMod, aFdiv, uNeg, riAdd, riSub, qCall, qAsg, gtName, gtTup, gtCons, gtNil, iLst, iTp, qFor, TL.startT, List.replicate, List.map_cons, List.map_nil, List.length_cons, List.length_nil, List.cons_append, List.nil_append, List.append_nil, List.set_cons_succ, List.set_cons_zero, List.getElem?_cons_zero, List.getElem?_cons_succ, List.getD_cons_zero, List.getD_cons_succ, List.headD_cons, Option.isSome_some, Bool.not_true, Bool.not_false, Bool.false_eq_true, if_true, if_false, true_and, and_true, decide_eq_true_eq, decide_true, decide_false, Nat.zero_add, reduceIte, reduceCtorEq]
  exact q _ hs
/-! ### layers -/
def hasNot (r : T) : Bool := (bodyOf r).any isNot
def lvl (rs : List T) : Int := if rs.any hasNot = true then 1 else 0
/-- the numbers of shapes -/
structure NI (goal : T) (rs : List T) (v : Int) (kvs : List (T × T)) : Prop where
  key : (kvs.all fun p => tupK p.1) = true
  at_ : look kvs (shT goal) = some (.int v)
  els : ∀ s, s ≠ shT goal → s ∈ mk1 kvs → look kvs s = some (.int 0)
  all : ∀ r ∈ rs, ∀ t ∈ lkR r, ∃ s n, t = .tup [s, n] ∧ s ∈ mk1 kvs
  len : kvs.length ≤ 56
  nd : (mk1 kvs).Nodup
theorem look_putT {kvs : List (T × T)} {k v x : T} : look (putT kvs k v) x = if x = k then some v else look kvs x := by
  unfold putT
  split
  · rename_i h
    by_cases hx : x = k
    · subst hx
      rw [if_pos rfl]
      induction kvs with
      | nil => simp [look_nil] at h
      | cons p r ih =>
        by_cases hp : p.1 = x
        · rw [List.map_cons, if_pos hp]; exact look_pos hp
        · rw [look_neg hp] at h
          rw [List.map_cons, if_neg hp, look_neg hp]
          exact ih h
    · rw [if_neg hx]
      clear h
      induction kvs with
      | nil => rfl
      | cons p r ih =>
        rw [List.map_cons]
        by_cases hp : p.1 = x
        · have hpk : ¬ p.1 = k := fun z => hx (hp.symm.trans z)
          rw [if_neg hpk, look_pos hp, look_pos hp]
        · by_cases hpk : p.1 = k
          · rw [if_pos hpk, look_neg (p := (p.1, v)) hp, look_neg hp, ih]
          · rw [if_neg hpk, look_neg hp, look_neg hp, ih]
  · rename_i h
    induction kvs with
    | nil =>
      by_cases hx : x = k
      · subst hx; rw [if_pos rfl]; exact look_pos rfl
      · rw [if_neg hx]; exact look_neg fun z => hx z.symm
    | cons p r ih =>
      by_cases hp : p.1 = k
      · rw [look_pos hp] at h; simp at h
      · rw [look_neg hp] at h
        rw [List.cons_append]
        by_cases hx : p.1 = x
        · have hxk : ¬ x = k := fun z => hp (hx.trans z)
          rw [look_pos hx, if_neg hxk, look_pos hx]
        · rw [look_neg hx, look_neg hx]
          exact ih h
theorem putT_len_in {kvs : List (T × T)} {k v : T} (h : (look kvs k).isSome = true) : (putT kvs k v).length = kvs.length := by
  unfold putT
  rw [if_pos h]
  simp
theorem maxOr_01 : ∀ (l : List Int), (∀ n ∈ l, n = 0 ∨ n = 1) → maxOr 0 l = if (1 : Int) ∈ l then 1 else 0 := by
  have go : ∀ (l : List Int) (a : Int), (a = 0 ∨ a = 1) → (∀ n ∈ l, n = 0 ∨ n = 1) → l.foldl max a = if (1 : Int) ∈ a :: l then 1 else 0 := by
    intro l
    induction l with
    | nil => intro a ha _; rcases ha with rfl | rfl <;> simp
    | cons b l ih =>
      intro a ha h
      have hb := h b (List.mem_cons_self ..)
      rw [List.foldl_cons, ih _ (by rcases ha with rfl | rfl <;> rcases hb with rfl | rfl <;> simp [Int.max_def]) fun n hn => h n (List.mem_cons_of_mem _ hn)]
      rcases ha with rfl | rfl <;> rcases hb with rfl | rfl <;> simp [Int.max_def]
  intro l h
  cases l with
  | nil => simp [maxOr]
  | cons a l => exact go l a (h a (List.mem_cons_self ..)) fun n hn => h n (List.mem_cons_of_mem _ hn)

def fstT : T → Option T
  | .tup (s :: _) => some s
  | _ => none
def sndT : T → Option T
  | .tup [_, n] => some n
  | _ => none
def shR (r : T) : List T := (lkR r).filterMap fstT
theorem shR_mem {goal r s : T} (h : Rl goal r) (hs : s ∈ shR r) : ∃ a, Fc a ∧ shT a ≠ shT goal ∧ s = shT a := by
  obtain ⟨t, ht, e⟩ := List.mem_filterMap.mp hs
  obtain ⟨w, a, hf, hn, rfl⟩ := h.looks ht
  simp only [fstT, Option.some.injEq] at e
  exact ⟨a, hf, hn, e.symm⟩
theorem lkR_sh {goal r t : T} (h : Rl goal r) (ht : t ∈ lkR r) : ∃ s n, t = .tup [s, n] ∧ s ∈ shR r := by
  obtain ⟨w, a, hf, hn, rfl⟩ := h.looks ht
  exact ⟨_, _, rfl, List.mem_filterMap.mpr ⟨_, ht, rfl⟩⟩
theorem shR_len {goal r : T} (h : Rl goal r) : (shR r).length ≤ 6 := by
  obtain ⟨ps, rfl, _, hl⟩ := h.ex
  refine Nat.le_trans (List.length_filterMap_le _ _) ?_
  simpa [lkR, bodyOf, ruT] using hl
theorem steps {goal r : T} (h : Rl goal r) : ∃ ns, intsT ((lkR r).filterMap sndT) = some ns ∧ maxOr 0 ns = if hasNot r = true then 1 else 0 := by
  obtain ⟨ps, rfl, hp, _⟩ := h.ex
  have e : lkR (ruT goal ps) = ps.map lkP := rfl
  have e2 : hasNot (ruT goal ps) = ps.any isNot := rfl
  rw [e, e2]
  have go : ∀ ps : List T, (∀ p ∈ ps, ∃ w a, Pt p w a) → ∃ ns : List Int, intsT ((ps.map lkP).filterMap sndT) = some ns ∧ (∀ n ∈ ns, n = 0 ∨ n = 1) ∧ ((1 : Int) ∈ ns ↔ ps.any isNot = true) := by
    intro ps
    induction ps with
    | nil => intro _; exact ⟨[], rfl, by simp, by simp⟩
    | cons p ps ih =>
      intro hp
      obtain ⟨w, a, rfl, hw, _⟩ := hp p (List.mem_cons_self ..)
      obtain ⟨ns, h1, h2, h3⟩ := ih fun q hq => hp q (List.mem_cons_of_mem _ hq)
      simp only [List.map_cons, lkP, List.filterMap_cons, sndT, intsT, h1, Option.map_some, List.any_cons, isNot, Bool.or_eq_true, decide_eq_true_eq]
      refine ⟨_, rfl, ?_, ?_⟩
      · intro n hn
        rcases List.mem_cons.mp hn with rfl | hn
        · split <;> simp
        · exact h2 n hn
      · rw [List.mem_cons, h3]
        by_cases hw : w = "not" <;> simp [hw]
  obtain ⟨ns, h1, h2, h3⟩ := go ps fun p hp' => by
    obtain ⟨w, a, h, _⟩ := hp p hp'
    exact ⟨w, a, h⟩
  refine ⟨ns, h1, ?_⟩
  rw [maxOr_01 ns h2]
  by_cases hn : ps.any isNot = true <;> simp [h3, hn]
end K82
set_option Elab.async false
set_option linter.all false
set_option maxRecDepth 100000
set_option maxHeartbeats 4000000
namespace K82
open PySem PySem.Spec L2 PyProof.Rows TL
/-- while the shapes are put in -/
structure N0 (goal : T) (rs us : List T) (kvs : List (T × T)) : Prop where
  key : (kvs.all fun p => tupK p.1) = true
  els : ∀ s, s ∈ mk1 kvs → look kvs s = some (.int 0)
  nd : (mk1 kvs).Nodup
theorem N0.put {goal : T} {rs us : List T} {kvs : List (T × T)} (h : N0 goal rs us kvs) {s : T} (hs : tupK s = true) : N0 goal rs us (putT kvs s (.int 0)) where
  key := putT_tup hs h.key
  els := fun x hx => by
    rw [look_putT]
    by_cases e : x = s
    · rw [if_pos e]
    · rw [if_neg e]
      exact h.els x ((putT_keys.mp hx).resolve_right e)
  nd := putT_nodup h.nd
def sp_layers : TSp := fun ds g Q _ => ∃ goal rs, ds = [.lst rs] ∧ RsOk goal rs ∧ Fc goal ∧ rs ≠ [] ∧ ∀ g' kvs, Sub g g' → NI goal rs (lvl rs) kvs → Q (.dct kvs) g'
theorem pd_none {g g' : G} {a : Addr} (h : Sub g g') (n : g' a = none) : g a = none := by
  cases e : g a with
  | none => rfl
  | some o => rw [h a o e] at n; cases n
theorem sh_in {goal : T} {rs : List T} {r s : T} (hR : RsOk goal rs) (hg : Fc goal) (hr : r ∈ rs) (hs : s ∈ shT goal :: shR r) : tupK s = true := by
  rcases List.mem_cons.mp hs with rfl | hs
  · exact hg.shK
  · obtain ⟨a, hf, _, rfl⟩ := shR_mem (hR.1 r hr) hs
    exact hf.shK
theorem p_layers (ds : List T) (g : G) (Q : K1) (h : sp_layers ds g Q noX) : t_layers sp_none sp_rshape sp_looked { nx := fun _ g' => Q .non g', rt := Q } (TL.startT N_layers ds) g := by
  obtain ⟨goal, rs, rfl, hR, hg, hne, q⟩ := h
  have hsg : ∀ g, res g (shT goal) = shT goal := fun g => by obtain ⟨x, r, _, _, _, e⟩ := hg.sh; rw [e]; rfl
  unfold t_layers
  simp only [qFrz_k, frzK_lst, frzK_dct, frzK_tup, qSeq, qIfS, qOr, qNot, qAnd, qTB, qCB, qCons, qNil, qTup, qLstF, qVar, qC, sl, bIsi, c2, c1, m0, m1, m2, res_tup, res_lst', res_int, res_str, res_bl, res_non, res_dct, res_ty, tyN, isStr, TL.isInt, TL.isTup, TL.isBool, TL.isLst, isN, isB, qIf, qChain, cLe, cLt, cGt, cGe, cEq, cNe, cEqV, cIn, cNotIn, cIsN, cNotN, n2, bLen, lenV, bInt, bTup, qNext, qRet, qRetN, qDrop, qAndV, qOrV, qNotV, qOp, aIx, ixV, idx, aSub, aMul, aMod, aFdiv, uNeg, riAdd, riSub, qCall, qAsg, gtName, gtTup, gtCons, gtNil, iLst, iTp, qFor, TL.startT, List.replicate, List.map_cons, List.map_nil, List.length_cons, List.length_nil, List.cons_append, List.nil_append, List.append_nil, List.set_cons_succ, List.set_cons_zero, List.getElem?_cons_zero, List.getElem?_cons_succ, List.getD_cons_zero, List.getD_cons_succ, List.headD_cons, Option.isSome_some, Bool.not_true, Bool.not_false, Bool.false_eq_true, if_true, if_false, true_and, and_true, decide_eq_true_eq, decide_true, decide_false, Nat.zero_add, reduceIte, reduceCtorEq]
  refine ⟨goal, rs, rfl, hR, hg, fun g1 hs1 => ?_⟩
  simp only [qFrz_k, frzK_lst, frzK_dct, frzK_tup, qSeq, qIfS, qOr, qNot, qAnd, qTB, qCB, qCons, qNil, qTup, qLstF, qVar, qC, sl, bIsi, c2, c1, m0, m1, m2, res_tup, res_lst', res_int, res_str, res_bl, res_non, res_dct, res_ty, tyN, isStr, TL.isInt, TL.isTup, TL.isBool, TL.isLst, isN, isB, qIf, qChain, cLe, cLt, cGt, cGe, cEq, cNe, cEqV, cIn, cNotIn, cIsN, cNotN, n2, bLen, lenV, bInt, bTup, qNext, qRet, qRetN, qDrop, qAndV, qOrV, qNotV, qOp, aIx, ixV, idx, aSub, aMul, aMod, aFdiv, uNeg, riAdd, riSub, qCall, qAsg, gtName, gtTup, gtCons, gtNil, iLst, iTp, qFor, TL.startT, List.replicate, List.map_cons, List.map_nil, List.length_cons, List.length_nil, List.cons_append, List.nil_append, List.append_nil, List.set_cons_succ, List.set_cons_zero, List.getElem?_cons_zero, List.getElem?_cons_succ, List.getD_cons_zero, List.getD_cons_succ, List.headD_cons, Option.isSome_some, Bool.not_true, Bool.not_false, Bool.false_eq_true, if_true, if_false, true_and, and_true, decide_eq_true_eq, decide_true, decide_false, Nat.zero_add, reduceIte, reduceCtorEq, qDict0]
  intro pd hpd
  have hpd0 : g pd = none := pd_none hs1 hpd
  refine wFor_I (fun us δ g' => Sub g1 g' ∧ (∀ u ∈ us, u ∈ rs) ∧ ∃ kvs a b c d e, δ = [some (.lst rs), some (.ref pd), a, b, c, d, e] ∧ g' pd = some (.dct kvs) ∧ N0 goal rs us kvs ∧ kvs.length + 7 * us.length ≤ 7 * rs.length ∧ ∀ r ∈ rs, r ∈ us ∨ ∀ s ∈ shT goal :: shR r, s ∈ mk1 kvs) (fun _ _ _ _ => trivial) ?_ ?_ _ _ _
    ⟨sub_put hpd, fun _ h => h, [], _, _, _, _, _, rfl, gput_same, ⟨rfl, fun s hs => (by cases hs), by simp [mk1]⟩, by simp, fun r hr => .inl hr⟩
  · rintro r us δ g' ⟨hs, hm, kvs, a, b, c, d, e, rfl, hd, hN, hl, hc⟩ K hK
    have hrm := hm r (List.mem_cons_self ..)
    have hrl := hR.1 r hrm
    obtain ⟨ps, er, _⟩ := hrl.ex
    have l6 := shR_len hrl
    simp only [qFrz_k, frzK_lst, frzK_dct, frzK_tup, qSeq, qIfS, qOr, qNot, qAnd, qTB, qCB, qCons, qNil, qTup, qLstF, qVar, qC, sl, bIsi, c2, c1, m0, m1, m2, res_tup, res_lst', res_int, res_str, res_bl, res_non, res_dct, res_ty, tyN, isStr, TL.isInt, TL.isTup, TL.isBool, TL.isLst, isN, isB, qIf, qChain, cLe, cLt, cGt, cGe, cEq, cNe, cEqV, cIn, cNotIn, cIsN, cNotN, n2, bLen, lenV, bInt, bTup, qNext, qRet, qRetN, qDrop, qAndV, qOrV, qNotV, qOp, aIx, ixV, idx, aSub, aMul, aMod, aFdiv, uNeg, riAdd, riSub, qCall, qAsg, gtName, gtTup, gtCons, gtNil, iLst, iTp, qFor, TL.startT, List.replicate, List.map_cons, List.map_nil, List.length_cons, List.length_nil, List.cons_append, List.nil_append, List.append_nil, List.set_cons_succ, List.set_cons_zero, List.getElem?_cons_zero, List.getElem?_cons_succ, List.getD_cons_zero, List.getD_cons_succ, List.headD_cons, Option.isSome_some, Bool.not_true, Bool.not_false, Bool.false_eq_true, if_true, if_false, true_and, and_true, decide_eq_true_eq, decide_true, decide_false, Nat.zero_add, reduceIte, reduceCtorEq]
    rw [er]
    refine rshape_ok hg ?_
    rw [← er]
    refine ⟨by rw [sizeLine_eq]; omega, ?_⟩
    refine lcK (F := fstT) (ts := lkR r) (kp := yes) (fun R hR => ⟨goal, r, rfl, hrl, hR⟩) (fun _ _ => trivial) (fun t ht g'' K hs hk => ?_) (by obtain ⟨ps, rfl, _, hl⟩ := hrl.ex; rw [sizeLine_eq]; simp [lkR, bodyOf, ruT]; omega) ?_
    · obtain ⟨w, f, hf, hn, rfl⟩ := hrl.looks ht
      simp only [qFrz_k, frzK_lst, frzK_dct, frzK_tup, qSeq, qIfS, qOr, qNot, qAnd, qTB, qCB, qCons, qNil, qTup, qLstF, qVar, qC, sl, bIsi, c2, c1, m0, m1, m2, res_tup, res_lst', res_int, res_str, res_bl, res_non, res_dct, res_ty, tyN, isStr, TL.isInt, TL.isTup, TL.isBool, TL.isLst, isN, isB, qIf, qChain, cLe, cLt, cGt, cGe, cEq, cNe, cEqV, cIn, cNotIn, cIsN, cNotN, n2, bLen, lenV, bInt, bTup, qNext, qRet, qRetN, qDrop, qAndV, qOrV, qNotV, qOp, aIx, ixV, idx, aSub, aMul, aMod, aFdiv, uNeg, riAdd, riSub, qCall, qAsg, gtName, gtTup, gtCons, gtNil, iLst, iTp, qFor, TL.startT, List.replicate, List.map_cons, List.map_nil, List.length_cons, List.length_nil, List.cons_append, List.nil_append, List.append_nil, List.set_cons_succ, List.set_cons_zero, List.getElem?_cons_zero, List.getElem?_cons_succ, List.getD_cons_zero, List.getD_cons_succ, List.headD_cons, Option.isSome_some, Bool.not_true, Bool.not_false, Bool.false_eq_true, if_true, if_false, true_and, and_true, decide_eq_true_eq, decide_true, decide_false, Nat.zero_add, reduceIte, reduceCtorEq, wipeT, qYes]
      exact hk
    · show aAdd _ (.lst (shR r)) _ _
      simp only [aAdd, res_lst']
      refine ⟨by rw [sizeLine_eq]; simp; omega, fun pl hpl => ?_⟩
      simp only [gput_same, List.cons_append, List.nil_append]
      have hlp : pl ≠ pd := fun z => by rw [z, hd] at hpl; cases hpl
      refine wFor_I (fun vs δ g'' => Sub g1 g'' ∧ g'' pl = some (.lst (shT goal :: shR r)) ∧ (∀ s ∈ vs, s ∈ shT goal :: shR r) ∧ ∃ kvs2 b c d e, δ = [some (.lst rs), some (.ref pd), some r, b, c, d, e] ∧ g'' pd = some (.dct kvs2) ∧ N0 goal rs us kvs2 ∧ kvs2.length + vs.length + 7 * us.length ≤ 7 * rs.length ∧ (∀ s ∈ mk1 kvs, s ∈ mk1 kvs2) ∧ ∀ s ∈ shT goal :: shR r, s ∈ vs ∨ s ∈ mk1 kvs2) (fun vs δ g'' h => h.2.1) ?_ ?_ _ _ _
        ⟨hs.trans (sub_put hpl), gput_same, fun _ h => h, kvs, _, _, _, _, rfl, by rw [gput_ne hlp.symm]; exact hd, ⟨hN.key, hN.els, hN.nd⟩, by simp only [List.length_cons] at hl ⊢; omega, fun _ h => h, fun s h => .inl h⟩
      · rintro s vs δ g'' ⟨hs2, hpl2, hm2, kvs2, b, c, d, e, rfl, hd2, hN2, hl2, hc2, hc3⟩ K hK
        have hks := sh_in hR hg hrm (hm2 s (List.mem_cons_self ..))
        simp only [qFrz_k, frzK_lst, frzK_dct, frzK_tup, qSeq, qIfS, qOr, qNot, qAnd, qTB, qCB, qCons, qNil, qTup, qLstF, qVar, qC, sl, bIsi, c2, c1, m0, m1, m2, res_tup, res_lst', res_int, res_str, res_bl, res_non, res_dct, res_ty, tyN, isStr, TL.isInt, TL.isTup, TL.isBool, TL.isLst, isN, isB, qIf, qChain, cLe, cLt, cGt, cGe, cEq, cNe, cEqV, cIn, cNotIn, cIsN, cNotN, n2, bLen, lenV, bInt, bTup, qNext, qRet, qRetN, qDrop, qAndV, qOrV, qNotV, qOp, aIx, ixV, idx, aSub, aMul, aMod, aFdiv, uNeg, riAdd, riSub, qCall, qAsg, gtName, gtTup, gtCons, gtNil, iLst, iTp, qFor, TL.startT, List.replicate, List.map_cons, List.map_nil, List.length_cons, List.length_nil, List.cons_append, List.nil_append, List.append_nil, List.set_cons_succ, List.set_cons_zero, List.getElem?_cons_zero, List.getElem?_cons_succ, List.getD_cons_zero, List.getD_cons_succ, List.headD_cons, Option.isSome_some, Bool.not_true, Bool.not_false, Bool.false_eq_true, if_true, if_false, true_and, and_true, decide_eq_true_eq, decide_true, decide_false, Nat.zero_add, reduceIte, reduceCtorEq, gtSub]
        refine .inr ?_
        simp only [gd, hd2]
        have h8 := hR.2
        simp only [List.length_cons] at hl2
        refine ⟨kOk_t hks hN2.key, by rw [sizeLine_eq]; omega, ?_⟩
        refine hK _ _ ⟨hs2.put1 hpd, by rw [gput_ne hlp]; exact hpl2, fun u hu => hm2 u (List.mem_cons_of_mem _ hu), _, _, _, _, _, rfl, gput_same, hN2.put hks, ?_, fun x hx => putT_keys.mpr (.inl (hc2 x hx)), fun x hx => ?_⟩
        · have := putT_len kvs2 s (.int 0); omega
        · rcases hc3 x hx with h | h
          · rcases List.mem_cons.mp h with rfl | h
            · exact .inr (putT_keys.mpr (.inr rfl))
            · exact .inl h
          · exact .inr (putT_keys.mpr (.inl h))
      · rintro δ g'' ⟨hs2, hpl2, hm2, kvs2, b, c, d, e, rfl, hd2, hN2, hl2, hc2, hc3⟩
        refine hK _ _ ⟨hs2, fun u hu => hm u (List.mem_cons_of_mem _ hu), kvs2, _, _, _, _, _, rfl, hd2, hN2, by simpa using hl2, fun r' hr' => ?_⟩
        rcases hc r' hr' with h | h
        · rcases List.mem_cons.mp h with rfl | h
          · exact .inr fun s hs => (hc3 s hs).resolve_left (by simp)
          · exact .inl h
        · exact .inr fun s hs => hc2 s (h s hs)
  · rintro δ g' ⟨hs, hm, kvs, a, b, c, d, e, rfl, hd, hN, hl, hc⟩
    have hN' : NI goal rs 0 kvs := by
      have hc' : ∀ r ∈ rs, ∀ s ∈ shT goal :: shR r, s ∈ mk1 kvs := fun r hr => (hc r hr).resolve_left (by simp)
      obtain ⟨r0, hr0⟩ := List.exists_mem_of_ne_nil rs hne
      refine ⟨hN.key, hN.els _ (hc' r0 hr0 _ (List.mem_cons_self ..)), fun s _ hs => hN.els s hs, fun r hr t ht => ?_, by have := hR.2; simp at hl; omega, hN.nd⟩
      obtain ⟨s, n, rfl, hs⟩ := lkR_sh (hR.1 r hr) ht
      exact ⟨s, n, rfl, hc' r hr s (List.mem_cons_of_mem _ hs)⟩
    have hl0 : lvl rs = 0 ∨ lvl rs = 1 := by unfold lvl; split <;> simp
    simp only [qFrz_k, frzK_lst, frzK_dct, frzK_tup, qSeq, qIfS, qOr, qNot, qAnd, qTB, qCB, qCons, qNil, qTup, qLstF, qVar, qC, sl, bIsi, c2, c1, m0, m1, m2, res_tup, res_lst', res_int, res_str, res_bl, res_non, res_dct, res_ty, tyN, isStr, TL.isInt, TL.isTup, TL.isBool, TL.isLst, isN, isB, qIf, qChain, cLe, cLt, cGt, cGe, cEq, cNe, cEqV, cIn, cNotIn, cIsN, cNotN, n2, bLen, lenV, bInt, bTup, qNext, qRet, qRetN, qDrop, qAndV, qOrV, qNotV, qOp, aIx, ixV, idx, aSub, aMul, aMod, aFdiv, uNeg, riAdd, riSub, qCall, qAsg, gtName, gtTup, gtCons, gtNil, iLst, iTp, qFor, TL.startT, List.replicate, List.map_cons, List.map_nil, List.length_cons, List.length_nil, List.cons_append, List.nil_append, List.append_nil, List.set_cons_succ, List.set_cons_zero, List.getElem?_cons_zero, List.getElem?_cons_succ, List.getD_cons_zero, List.getD_cons_succ, List.headD_cons, Option.isSome_some, Bool.not_true, Bool.not_false, Bool.false_eq_true, if_true, if_false, true_and, and_true, decide_eq_true_eq, decide_true, decide_false, Nat.zero_add, reduceIte, reduceCtorEq, qWhile]
    refine ⟨(if lvl rs = 0 then 1 else 2) + 1, wWhile_I (fun n δ g' => Sub g1 g' ∧ ∃ kvs a b, ∃ raised : Bool, ∃ d e v, δ = [some (.lst rs), some (.ref pd), a, b, some (.bl raised), d, e] ∧ g' pd = some (.dct kvs) ∧ NI goal rs v kvs ∧ ((raised = true ∧ v = lvl rs ∧ n = 1) ∨ (raised = true ∧ v = 0 ∧ lvl rs = 1 ∧ n = 2) ∨ (raised = false ∧ v = lvl rs ∧ n = 0))) ?_ _ _ _ ⟨hs, kvs, _, _, true, _, _, 0, rfl, hd, hN', ?_⟩⟩
    rotate_left
    · rcases hl0 with h0 | h0
      · rw [if_pos h0]
        exact .inl ⟨rfl, h0.symm, rfl⟩
      · rw [if_neg (by rw [h0]; omega)]
        exact .inr (.inl ⟨rfl, rfl, h0, rfl⟩)
    · rintro n δ g' ⟨hs, kvs, a, b, raised, d, e, v, rfl, hd, hN, hv⟩
      refine ⟨raised, g', fun R hR => by simp only [qFrz_k, frzK_lst, frzK_dct, frzK_tup, qSeq, qIfS, qOr, qNot, qAnd, qTB, qCB, qCons, qNil, qTup, qLstF, qVar, qC, sl, bIsi, c2, c1, m0, m1, m2, res_tup, res_lst', res_int, res_str, res_bl, res_non, res_dct, res_ty, tyN, isStr, TL.isInt, TL.isTup, TL.isBool, TL.isLst, isN, isB, qIf, qChain, cLe, cLt, cGt, cGe, cEq, cNe, cEqV, cIn, cNotIn, cIsN, cNotN, n2, bLen, lenV, bInt, bTup, qNext, qRet, qRetN, qDrop, qAndV, qOrV, qNotV, qOp, aIx, ixV, idx, aSub, aMul, aMod, aFdiv, uNeg, riAdd, riSub, qCall, qAsg, gtName, gtTup, gtCons, gtNil, iLst, iTp, qFor, TL.startT, List.replicate, List.map_cons, List.map_nil, List.length_cons, List.length_nil, List.cons_append, List.nil_append, List.append_nil, List.set_cons_succ, List.set_cons_zero, List.getElem?_cons_zero, List.getElem?_cons_succ, List.getD_cons_zero, List.getD_cons_succ, List.headD_cons, Option.isSome_some, Bool.not_true, Bool.not_false, Bool.false_eq_true, if_true, if_false, true_and, and_true, decide_eq_true_eq, decide_true, decide_false, Nat.zero_add, reduceIte, reduceCtorEq]; exact hR, ?_⟩
      cases raised with
      | false =>
        simp only [Bool.false_eq_true, if_false]
        have hv' : v = lvl rs := by
          rcases hv with ⟨h, _⟩ | ⟨h, _⟩ | ⟨_, h, _⟩
          · cases h
          · cases h
          · exact h
        subst hv'
        simp only [qFrz_k, frzK_lst, frzK_dct, frzK_tup, qSeq, qIfS, qOr, qNot, qAnd, qTB, qCB, qCons, qNil, qTup, qLstF, qVar, qC, sl, bIsi, c2, c1, m0, m1, m2, res_tup, res_lst', res_int, res_str, res_bl, res_non, res_dct, res_ty, tyN, isStr, TL.isInt, TL.isTup, TL.isBool, TL.isLst, isN, isB, qIf, qChain, cLe, cLt, cGt, cGe, cEq, cNe, cEqV, cIn, cNotIn, cIsN, cNotN, n2, bLen, lenV, bInt, bTup, qNext, qRet, qRetN, qDrop, qAndV, qOrV, qNotV, qOp, aIx, ixV, idx, aSub, aMul, aMod, aFdiv, uNeg, riAdd, riSub, qCall, qAsg, gtName, gtTup, gtCons, gtNil, iLst, iTp, qFor, TL.startT, List.replicate, List.map_cons, List.map_nil, List.length_cons, List.length_nil, List.cons_append, List.nil_append, List.append_nil, List.set_cons_succ, List.set_cons_zero, List.getElem?_cons_zero, List.getElem?_cons_succ, List.getD_cons_zero, List.getD_cons_succ, List.headD_cons, Option.isSome_some, Bool.not_true, Bool.not_false, Bool.false_eq_true, if_true, if_false, true_and, and_true, decide_eq_true_eq, decide_true, decide_false, Nat.zero_add, reduceIte, reduceCtorEq]
        rw [frzK_refD hd]
        exact q _ _ ((hs1.trans hs).del1 hpd0) hN
      | true =>
        simp only [if_true]
        have hv' : (v = lvl rs ∧ n = 1) ∨ (v = 0 ∧ lvl rs = 1 ∧ n = 2) := by
          rcases hv with ⟨_, h, h2⟩ | ⟨_, h⟩ | ⟨h, _⟩
          · exact .inl ⟨h, h2⟩
          · exact .inr h
          · cases h
        refine ⟨if v = lvl rs then 0 else 1, ?_, fun K hK => ?_⟩
        · rcases hv' with ⟨h, rfl⟩ | ⟨h, h1, rfl⟩
          · rw [if_pos h]
          · rw [if_neg (by omega)]
        try simp only [qFrz_k, frzK_lst, frzK_dct, frzK_tup, qSeq, qIfS, qOr, qNot, qAnd, qTB, qCB, qCons, qNil, qTup, qLstF, qVar, qC, sl, bIsi, c2, c1, m0, m1, m2, res_tup, res_lst', res_int, res_str, res_bl, res_non, res_dct, res_ty, tyN, isStr, TL.isInt, TL.isTup, TL.isBool, TL.isLst, isN, isB, qIf, qChain, cLe, cLt, cGt, cGe, cEq, cNe, cEqV, cIn, cNotIn, cIsN, cNotN, n2, bLen, lenV, bInt, bTup, qNext, qRet, qRetN, qDrop, qAndV, qOrV, qNotV, qOp, aIx, ixV, idx, aSub, aMul, aMod, aFdiv, uNeg, riAdd, riSub, qCall, qAsg, gtName, gtTup, gtCons, gtNil, iLst, iTp, qFor, TL.startT, List.replicate, List.map_cons, List.map_nil, List.length_cons, List.length_nil, List.cons_append, List.nil_append, List.append_nil, List.set_cons_succ, List.set_cons_zero, List.getElem?_cons_zero, List.getElem?_cons_succ, List.getD_cons_zero, List.getD_cons_succ, List.headD_cons, Option.isSome_some, Bool.not_true, Bool.not_false, Bool.false_eq_true, if_true, if_false, true_and, and_true, decide_eq_true_eq, decide_true, decide_false, Nat.zero_add, reduceIte, reduceCtorEq, iLst]
        refine wFor_I (fun us δ g' => Sub g1 g' ∧ (∀ u ∈ us, u ∈ rs) ∧ ∃ kvs a b, ∃ raised : Bool, ∃ d e v', δ = [some (.lst rs), some (.ref pd), a, b, some (.bl raised), d, e] ∧ g' pd = some (.dct kvs) ∧ NI goal rs v' kvs ∧ ((v = lvl rs ∧ v' = v ∧ raised = false) ∨ (v = 0 ∧ lvl rs = 1 ∧ ((v' = 0 ∧ raised = false ∧ us.any hasNot = true) ∨ (v' = 1 ∧ raised = true))))) (fun _ _ _ _ => trivial) ?_ ?_ _ _ _
          ⟨hs, fun _ h => h, kvs, _, _, false, _, _, v, rfl, hd, hN, ?_⟩
        · rintro r us δ g' ⟨hs, hm, kvs, a, b, raised, d, e, v', rfl, hd, hN, hv2⟩ K hK
          have hrm := hm r (List.mem_cons_self ..)
          have hrl := hR.1 r hrm
          obtain ⟨ps, er, _⟩ := hrl.ex
          obtain ⟨ns, hi, hmx⟩ := steps hrl
          simp only [qFrz_k, frzK_lst, frzK_dct, frzK_tup, qSeq, qIfS, qOr, qNot, qAnd, qTB, qCB, qCons, qNil, qTup, qLstF, qVar, qC, sl, bIsi, c2, c1, m0, m1, m2, res_tup, res_lst', res_int, res_str, res_bl, res_non, res_dct, res_ty, tyN, isStr, TL.isInt, TL.isTup, TL.isBool, TL.isLst, isN, isB, qIf, qChain, cLe, cLt, cGt, cGe, cEq, cNe, cEqV, cIn, cNotIn, cIsN, cNotN, n2, bLen, lenV, bInt, bTup, qNext, qRet, qRetN, qDrop, qAndV, qOrV, qNotV, qOp, aIx, ixV, idx, aSub, aMul, aMod, aFdiv, uNeg, riAdd, riSub, qCall, qAsg, gtName, gtTup, gtCons, gtNil, iLst, iTp, qFor, TL.startT, List.replicate, List.map_cons, List.map_nil, List.length_cons, List.length_nil, List.cons_append, List.nil_append, List.append_nil, List.set_cons_succ, List.set_cons_zero, List.getElem?_cons_zero, List.getElem?_cons_succ, List.getD_cons_zero, List.getD_cons_succ, List.headD_cons, Option.isSome_some, Bool.not_true, Bool.not_false, Bool.false_eq_true, if_true, if_false, true_and, and_true, decide_eq_true_eq, decide_true, decide_false, Nat.zero_add, reduceIte, reduceCtorEq, qSortK]
          refine lcK (F := sndT) (ts := lkR r) (kp := yes) (fun R hR => ⟨goal, r, rfl, hrl, hR⟩) (fun _ _ => trivial) (fun t ht g'' K hs hk => ?_) (by obtain ⟨ps, rfl, _, hl⟩ := hrl.ex; rw [sizeLine_eq]; simp [lkR, bodyOf, ruT]; omega) ?_
          · obtain ⟨s, n', e1, hin⟩ := hN.all r hrm t ht
            obtain ⟨w, f, hf, hn, rfl⟩ := hrl.looks ht
            obtain ⟨rfl, rfl⟩ : shT f = s ∧ T.int (if w = ("not" : PySem.Str) then 1 else 0) = n' := by cases e1; exact ⟨rfl, rfl⟩
            have hsf : res g'' (shT f) = shT f := by obtain ⟨x, r, _, _, _, e⟩ := hf.sh; rw [e]; rfl
            simp only [qFrz_k, frzK_lst, frzK_dct, frzK_tup, qSeq, qIfS, qOr, qNot, qAnd, qTB, qCB, qCons, qNil, qTup, qLstF, qVar, qC, sl, bIsi, c2, c1, m0, m1, m2, res_tup, res_lst', res_int, res_str, res_bl, res_non, res_dct, res_ty, tyN, isStr, TL.isInt, TL.isTup, TL.isBool, TL.isLst, isN, isB, qIf, qChain, cLe, cLt, cGt, cGe, cEq, cNe, cEqV, cIn, cNotIn, cIsN, cNotN, n2, bLen, lenV, bInt, bTup, qNext, qRet, qRetN, qDrop, qAndV, qOrV, qNotV, qOp, aIx, ixV, idx, aSub, aMul, aMod, aFdiv, uNeg, riAdd, riSub, qCall, qAsg, gtName, gtTup, gtCons, gtNil, iLst, iTp, qFor, TL.startT, List.replicate, List.map_cons, List.map_nil, List.length_cons, List.length_nil, List.cons_append, List.nil_append, List.append_nil, List.set_cons_succ, List.set_cons_zero, List.getElem?_cons_zero, List.getElem?_cons_succ, List.getD_cons_zero, List.getD_cons_succ, List.headD_cons, Option.isSome_some, Bool.not_true, Bool.not_false, Bool.false_eq_true, if_true, if_false, true_and, and_true, decide_eq_true_eq, decide_true, decide_false, Nat.zero_add, reduceIte, reduceCtorEq, wipeT, qYes, res_refD (hs _ _ hd), hsf, aAdd]
            refine ⟨kOk_t hf.shK hN.key, ?_⟩
            rw [hN.els _ hn hin]
            simp only [qFrz_k, frzK_lst, frzK_dct, frzK_tup, qSeq, qIfS, qOr, qNot, qAnd, qTB, qCB, qCons, qNil, qTup, qLstF, qVar, qC, sl, bIsi, c2, c1, m0, m1, m2, res_tup, res_lst', res_int, res_str, res_bl, res_non, res_dct, res_ty, tyN, isStr, TL.isInt, TL.isTup, TL.isBool, TL.isLst, isN, isB, qIf, qChain, cLe, cLt, cGt, cGe, cEq, cNe, cEqV, cIn, cNotIn, cIsN, cNotN, n2, bLen, lenV, bInt, bTup, qNext, qRet, qRetN, qDrop, qAndV, qOrV, qNotV, qOp, aIx, ixV, idx, aSub, aMul, aMod, aFdiv, uNeg, riAdd, riSub, qCall, qAsg, gtName, gtTup, gtCons, gtNil, iLst, iTp, qFor, TL.startT, List.replicate, List.map_cons, List.map_nil, List.length_cons, List.length_nil, List.cons_append, List.nil_append, List.append_nil, List.set_cons_succ, List.set_cons_zero, List.getElem?_cons_zero, List.getElem?_cons_succ, List.getD_cons_zero, List.getD_cons_succ, List.headD_cons, Option.isSome_some, Bool.not_true, Bool.not_false, Bool.false_eq_true, if_true, if_false, true_and, and_true, decide_eq_true_eq, decide_true, decide_false, Nat.zero_add, reduceIte, reduceCtorEq, aAdd, Int.zero_add]
            exact hk
          · simp only [bMaxD, qFrz_k, frzK_lst, frzK_dct, frzK_tup, qSeq, qIfS, qOr, qNot, qAnd, qTB, qCB, qCons, qNil, qTup, qLstF, qVar, qC, sl, bIsi, c2, c1, m0, m1, m2, res_tup, res_lst', res_int, res_str, res_bl, res_non, res_dct, res_ty, tyN, isStr, TL.isInt, TL.isTup, TL.isBool, TL.isLst, isN, isB, qIf, qChain, cLe, cLt, cGt, cGe, cEq, cNe, cEqV, cIn, cNotIn, cIsN, cNotN, n2, bLen, lenV, bInt, bTup, qNext, qRet, qRetN, qDrop, qAndV, qOrV, qNotV, qOp, aIx, ixV, idx, aSub, aMul, aMod, aFdiv, uNeg, riAdd, riSub, qCall, qAsg, gtName, gtTup, gtCons, gtNil, iLst, iTp, qFor, TL.startT, List.replicate, List.map_cons, List.map_nil, List.length_cons, List.length_nil, List.cons_append, List.nil_append, List.append_nil, List.set_cons_succ, List.set_cons_zero, List.getElem?_cons_zero, List.getElem?_cons_succ, List.getD_cons_zero, List.getD_cons_succ, List.headD_cons, Option.isSome_some, Bool.not_true, Bool.not_false, Bool.false_eq_true, if_true, if_false, true_and, and_true, decide_eq_true_eq, decide_true, decide_false, Nat.zero_add, reduceIte, reduceCtorEq, hi]
            rw [hmx]
            -- the end of this turn
            have hcont : ∀ (v'' : Int) (raised' : Bool) kvs' g'' a b d e, Sub g1 g'' → g'' pd = some (.dct kvs') → NI goal rs v'' kvs' → ((v = lvl rs ∧ v'' = v ∧ raised' = false) ∨ (v = 0 ∧ lvl rs = 1 ∧ ((v'' = 0 ∧ raised' = false ∧ us.any hasNot = true) ∨ (v'' = 1 ∧ raised' = true)))) → K [some (.lst rs), some (.ref pd), a, b, some (.bl raised'), d, e] g'' := fun v'' raised' kvs' g'' a b d e h1 h2 h3 h4 => hK _ _ ⟨h1, fun u hu => hm u (List.mem_cons_of_mem _ hu), kvs', a, b, raised', d, e, v'', rfl, h2, h3, h4⟩
            have hkg : kOk kvs (shT goal) = true := kOk_t hg.shK hN.key
            rw [er]
            refine rshape_ok hg ?_
            rw [← er]
            simp only [qFrz_k, frzK_lst, frzK_dct, frzK_tup, qSeq, qIfS, qOr, qNot, qAnd, qTB, qCB, qCons, qNil, qTup, qLstF, qVar, qC, sl, bIsi, c2, c1, m0, m1, m2, res_tup, res_lst', res_int, res_str, res_bl, res_non, res_dct, res_ty, tyN, isStr, TL.isInt, TL.isTup, TL.isBool, TL.isLst, isN, isB, qIf, qChain, cLe, cLt, cGt, cGe, cEq, cNe, cEqV, cIn, cNotIn, cIsN, cNotN, n2, bLen, lenV, bInt, bTup, qNext, qRet, qRetN, qDrop, qAndV, qOrV, qNotV, qOp, aIx, ixV, idx, aSub, aMul, aMod, aFdiv, uNeg, riAdd, riSub, qCall, qAsg, gtName, gtTup, gtCons, gtNil, iLst, iTp, qFor, TL.startT, List.replicate, List.map_cons, List.map_nil, List.length_cons, List.length_nil, List.cons_append, List.nil_append, List.append_nil, List.set_cons_succ, List.set_cons_zero, List.getElem?_cons_zero, List.getElem?_cons_succ, List.getD_cons_zero, List.getD_cons_succ, List.headD_cons, Option.isSome_some, Bool.not_true, Bool.not_false, Bool.false_eq_true, if_true, if_false, true_and, and_true, decide_eq_true_eq, decide_true, decide_false, Nat.zero_add, reduceIte, reduceCtorEq, res_refD hd, hsg]
            refine ⟨hkg, ?_⟩
            rw [hN.at_]
            simp only [qFrz_k, frzK_lst, frzK_dct, frzK_tup, qSeq, qIfS, qOr, qNot, qAnd, qTB, qCB, qCons, qNil, qTup, qLstF, qVar, qC, sl, bIsi, c2, c1, m0, m1, m2, res_tup, res_lst', res_int, res_str, res_bl, res_non, res_dct, res_ty, tyN, isStr, TL.isInt, TL.isTup, TL.isBool, TL.isLst, isN, isB, qIf, qChain, cLe, cLt, cGt, cGe, cEq, cNe, cEqV, cIn, cNotIn, cIsN, cNotN, n2, bLen, lenV, bInt, bTup, qNext, qRet, qRetN, qDrop, qAndV, qOrV, qNotV, qOp, aIx, ixV, idx, aSub, aMul, aMod, aFdiv, uNeg, riAdd, riSub, qCall, qAsg, gtName, gtTup, gtCons, gtNil, iLst, iTp, qFor, TL.startT, List.replicate, List.map_cons, List.map_nil, List.length_cons, List.length_nil, List.cons_append, List.nil_append, List.append_nil, List.set_cons_succ, List.set_cons_zero, List.getElem?_cons_zero, List.getElem?_cons_succ, List.getD_cons_zero, List.getD_cons_succ, List.headD_cons, Option.isSome_some, Bool.not_true, Bool.not_false, Bool.false_eq_true, if_true, if_false, true_and, and_true, decide_eq_true_eq, decide_true, decide_false, Nat.zero_add, reduceIte, reduceCtorEq]
            by_cases hlt : v' < (if hasNot r = true then (1 : Int) else 0)
            · have hn1 : hasNot r = true := by
                cases hq : hasNot r with
                | true => rfl
                | false =>
                  rw [hq, if_neg (by decide)] at hlt
                  rcases hv2 with ⟨h1, h2, _⟩ | ⟨_, _, ⟨h2, _⟩ | ⟨h2, _⟩⟩ <;> omega
              rw [if_pos hlt]
              rw [hn1, if_pos rfl] at hlt ⊢
              have hlv : lvl rs = 1 := by
                unfold lvl
                rw [if_pos (List.any_eq_true.mpr ⟨r, hrm, hn1⟩)]
              have hv0 : v = 0 ∧ v' = 0 := by
                rcases hv2 with ⟨h1, h2, _⟩ | ⟨h1, _, ⟨h2, _⟩ | ⟨h2, _⟩⟩ <;> omega
              simp only [qFrz_k, frzK_lst, frzK_dct, frzK_tup, qSeq, qIfS, qOr, qNot, qAnd, qTB, qCB, qCons, qNil, qTup, qLstF, qVar, qC, sl, bIsi, c2, c1, m0, m1, m2, res_tup, res_lst', res_int, res_str, res_bl, res_non, res_dct, res_ty, tyN, isStr, TL.isInt, TL.isTup, TL.isBool, TL.isLst, isN, isB, qIf, qChain, cLe, cLt, cGt, cGe, cEq, cNe, cEqV, cIn, cNotIn, cIsN, cNotN, n2, bLen, lenV, bInt, bTup, qNext, qRet, qRetN, qDrop, qAndV, qOrV, qNotV, qOp, aIx, ixV, idx, aSub, aMul, aMod, aFdiv, uNeg, riAdd, riSub, qCall, qAsg, gtName, gtTup, gtCons, gtNil, iLst, iTp, qFor, TL.startT, List.replicate, List.map_cons, List.map_nil, List.length_cons, List.length_nil, List.cons_append, List.nil_append, List.append_nil, List.set_cons_succ, List.set_cons_zero, List.getElem?_cons_zero, List.getElem?_cons_succ, List.getD_cons_zero, List.getD_cons_succ, List.headD_cons, Option.isSome_some, Bool.not_true, Bool.not_false, Bool.false_eq_true, if_true, if_false, true_and, and_true, decide_eq_true_eq, decide_true, decide_false, Nat.zero_add, reduceIte, reduceCtorEq, gtSub]
              rw [er]
              refine rshape_ok hg ?_
              rw [← er]
              refine .inr ?_
              simp only [gd, hd]
              refine ⟨hkg, by have := hN.len; rw [sizeLine_eq]; omega, ?_⟩
              have hin : (look kvs (shT goal)).isSome = true := by rw [hN.at_]; rfl
              refine hcont 1 true _ _ _ _ _ _ (hs.put1 hpd) gput_same ⟨putT_tup hg.shK hN.key, by rw [look_putT, if_pos rfl], fun s hs1 hs2 => ?_, fun r' hr' t ht => ?_, by rw [putT_len_in hin]; exact hN.len, putT_nodup hN.nd⟩ (.inr ⟨hv0.1, hlv, .inr ⟨rfl, rfl⟩⟩)
              · rw [look_putT, if_neg hs1]
                exact hN.els s hs1 ((putT_keys.mp hs2).resolve_right hs1)
              · obtain ⟨s, n, e1, e2⟩ := hN.all r' hr' t ht
                exact ⟨s, n, e1, putT_keys.mpr (.inl e2)⟩
            · rw [if_neg hlt]
              refine hcont v' raised _ _ _ _ _ _ hs hd hN ?_
              rcases hv2 with h | ⟨h1, h2, ⟨h3, h4, h5⟩ | h3⟩
              · exact .inl h
              · refine .inr ⟨h1, h2, .inl ⟨h3, h4, ?_⟩⟩
                rw [List.any_cons] at h5
                cases hq : hasNot r with
                | true => rw [hq, if_pos rfl] at hlt; omega
                | false => rw [hq, Bool.false_or] at h5; exact h5
              · exact .inr ⟨h1, h2, .inr h3⟩
        · rintro δ g' ⟨hs, hm, kvs, a, b, raised, d, e, v', rfl, hd, hN, hv2⟩
          refine hK _ _ ⟨hs, kvs, a, b, raised, d, e, v', rfl, hd, hN, ?_⟩
          rcases hv2 with ⟨h1, h2, h3⟩ | ⟨h1, h2, ⟨h3, h4, h5⟩ | ⟨h3, h4⟩⟩
          · exact .inr (.inr ⟨h3, h2.trans h1, by rw [if_pos h1]⟩)
          · simp at h5
          · exact .inl ⟨h4, h3.trans h2.symm, by rw [if_neg (by omega)]⟩
        · rcases hv' with ⟨h, _⟩ | ⟨h, h1, _⟩
          · exact .inl ⟨h, rfl, rfl⟩
          · refine .inr ⟨h, h1, .inl ⟨h, rfl, ?_⟩⟩
            unfold lvl at h1
            split at h1
            · assumption
            · omega
end K82
set_option Elab.async false
set_option linter.all false
set_option maxRecDepth 100000
set_option maxHeartbeats 4000000
namespace K82
open PySem PySem.Spec L2 PyProof.Rows TL
/-! ### what follows -/
/-- a table of facts -/
structure Tk (kvs : List (T × T)) : Prop where
  fc : ∀ x ∈ mk1 kvs, Fc x
  nd : (mk1 kvs).Nodup
theorem Tk.key {kvs : List (T × T)} (h : Tk kvs) : (kvs.all fun p => tupK p.1) = true := all_tup_iff.mpr fun x hx => (h.fc x hx).key
theorem mk1_len {kvs : List (T × T)} : (mk1 kvs).length = kvs.length := by simp [mk1]
theorem mk1_add {kvs : List (T × T)} {k v : T} : mk1 (kvs ++ [(k, v)]) = mk1 kvs ++ [k] := by simp [mk1]
def sp_take : TSp := fun ds g Q _ => ∃ a kvs fs age, ds = [.ref a, .lst fs, .int age] ∧ g a = some (.dct kvs) ∧ (∀ t ∈ fs, Fc t) ∧ Tk kvs ∧ kvs.length + fs.length ≤ 300 ∧
  ∀ kvs', Tk kvs' → (∀ x, x ∈ mk1 kvs' ↔ x ∈ mk1 kvs ∨ x ∈ fs) → Q .non (gput g a (.dct kvs'))
theorem p_take_in (ds : List T) (g : G) (Q : K1) (h : sp_take ds g Q noX) : t_take_in { nx := fun _ g' => Q .non g', rt := Q } (TL.startT N_take_in ds) g := by
  obtain ⟨a, kvs, fs, age, rfl, hd, hf, hk, hl, q⟩ := h
  unfold t_take_in
  simp only [qFrz_k, frzK_lst, frzK_dct, frzK_tup, qSeq, qIfS, qOr, qNot, qAnd, qTB, qCB, qCons, qNil, qTup, qLstF, qVar, qC, sl, bIsi, c2, c1, m0, m1, m2, res_tup, res_lst', res_int, res_str, res_bl, res_non, res_dct, res_ty, tyN, isStr, TL.isInt, TL.isTup, TL.isBool, TL.isLst, isN, isB, qIf, qChain, cLe, cLt, cGt, cGe, cEq, cNe, cEqV, cIn, cNotIn, cIsN, cNotN, n2, bLen, lenV, bInt, bTup, qNext, qRet, qRetN, qDrop, qAndV, qOrV, qNotV, qOp, aIx, ixV, idx, aSub, aMul, aMod, aFdiv, uNeg, riAdd, riSub, qCall, qAsg, gtName, gtTup, gtCons, gtNil, iLst, iTp, qFor, TL.startT, List.replicate, List.map_cons, List.map_nil, List.length_cons, List.length_nil, List.cons_append, List.nil_append, List.append_nil, List.set_cons_succ, List.set_cons_zero, List.getElem?_cons_zero, List.getElem?_cons_succ, List.getD_cons_zero, List.getD_cons_succ, List.headD_cons, Option.isSome_some, Bool.not_true, Bool.not_false, Bool.false_eq_true, if_true, if_false, true_and, and_true, decide_eq_true_eq, decide_true, decide_false, Nat.zero_add, reduceIte, reduceCtorEq]
  refine wFor_I (fun us δ g' => Sub1 a g g' ∧ (∀ u ∈ us, u ∈ fs) ∧ ∃ kvs' b, δ = [some (.ref a), some (.lst fs), some (.int age), b] ∧ g' = gput g a (.dct kvs') ∧ Tk kvs' ∧ kvs'.length + us.length ≤ 300 ∧ ∀ x, x ∈ mk1 kvs' ∨ x ∈ us ↔ x ∈ mk1 kvs ∨ x ∈ fs) (fun _ _ _ _ => trivial) ?_ ?_ _ _ _
    ⟨Sub1.refl, fun _ h => h, kvs, _, rfl, ?_, hk, hl, fun x => Iff.rfl⟩
  · rintro t us δ g' ⟨hs, hm, kvs', b, rfl, rfl, hk', hl', hx⟩ K hK
    have ht := hf t (hm t (List.mem_cons_self ..))
    simp only [List.length_cons] at hl'
    simp only [qFrz_k, frzK_lst, frzK_dct, frzK_tup, qSeq, qIfS, qOr, qNot, qAnd, qTB, qCB, qCons, qNil, qTup, qLstF, qVar, qC, sl, bIsi, c2, c1, m0, m1, m2, res_tup, res_lst', res_int, res_str, res_bl, res_non, res_dct, res_ty, tyN, isStr, TL.isInt, TL.isTup, TL.isBool, TL.isLst, isN, isB, qIf, qChain, cLe, cLt, cGt, cGe, cEq, cNe, cEqV, cIn, cNotIn, cIsN, cNotN, n2, bLen, lenV, bInt, bTup, qNext, qRet, qRetN, qDrop, qAndV, qOrV, qNotV, qOp, aIx, ixV, idx, aSub, aMul, aMod, aFdiv, uNeg, riAdd, riSub, qCall, qAsg, gtName, gtTup, gtCons, gtNil, iLst, iTp, qFor, TL.startT, List.replicate, List.map_cons, List.map_nil, List.length_cons, List.length_nil, List.cons_append, List.nil_append, List.append_nil, List.set_cons_succ, List.set_cons_zero, List.getElem?_cons_zero, List.getElem?_cons_succ, List.getD_cons_zero, List.getD_cons_succ, List.headD_cons, Option.isSome_some, Bool.not_true, Bool.not_false, Bool.false_eq_true, if_true, if_false, true_and, and_true, decide_eq_true_eq, decide_true, decide_false, Nat.zero_add, reduceIte, reduceCtorEq, qBM, res_refD gput_same, isTp, mSetD, gd, gput_same]
    refine ⟨by decide, kOk_t ht.key hk'.key, by rw [sizeLine_eq]; omega, ?_⟩
    cases e : look kvs' t with
    | some v =>
      have hin : t ∈ mk1 kvs' := look_mem.mp (by rw [e]; rfl)
      simp only
      refine hK _ _ ⟨Sub1.put, fun u hu => hm u (List.mem_cons_of_mem _ hu), kvs', _, rfl, rfl, hk', by omega, fun x => ?_⟩
      rw [← hx x, List.mem_cons]
      constructor
      · rintro (h | h)
        · exact .inl h
        · exact .inr (.inr h)
      · rintro (h | h | h)
        · exact .inl h
        · subst h; exact .inl hin
        · exact .inr h
    | none =>
      have hnin : t ∉ mk1 kvs' := fun z => by rw [look_mem.symm, e] at z; cases z
      simp only [gput_put]
      refine hK _ _ ⟨Sub1.put, fun u hu => hm u (List.mem_cons_of_mem _ hu), kvs' ++ [(t, .int age)], _, rfl, rfl, ⟨fun x hx => ?_, ?_⟩, by simp; omega, fun x => ?_⟩
      · rw [mk1_add] at hx
        rcases List.mem_append.mp hx with hx | hx
        · exact hk'.fc x hx
        · rw [List.mem_singleton.mp hx]; exact ht
      · rw [mk1_add, List.nodup_append]
        refine ⟨hk'.nd, by simp, fun x hx y hy z => ?_⟩
        rw [List.mem_singleton.mp hy] at z
        exact hnin (z ▸ hx)
      · rw [← hx x, mk1_add, List.mem_cons, List.mem_append, List.mem_singleton]
        constructor
        · rintro ((h | h) | h)
          · exact .inl h
          · exact .inr (.inl h)
          · exact .inr (.inr h)
        · rintro (h | h | h)
          · exact .inl (.inl h)
          · exact .inl (.inr h)
          · exact .inr h
  · rintro δ g' ⟨hs, hm, kvs', b, rfl, rfl, hk', hl', hx⟩
    simp only [qFrz_k, frzK_lst, frzK_dct, frzK_tup, qSeq, qIfS, qOr, qNot, qAnd, qTB, qCB, qCons, qNil, qTup, qLstF, qVar, qC, sl, bIsi, c2, c1, m0, m1, m2, res_tup, res_lst', res_int, res_str, res_bl, res_non, res_dct, res_ty, tyN, isStr, TL.isInt, TL.isTup, TL.isBool, TL.isLst, isN, isB, qIf, qChain, cLe, cLt, cGt, cGe, cEq, cNe, cEqV, cIn, cNotIn, cIsN, cNotN, n2, bLen, lenV, bInt, bTup, qNext, qRet, qRetN, qDrop, qAndV, qOrV, qNotV, qOp, aIx, ixV, idx, aSub, aMul, aMod, aFdiv, uNeg, riAdd, riSub, qCall, qAsg, gtName, gtTup, gtCons, gtNil, iLst, iTp, qFor, TL.startT, List.replicate, List.map_cons, List.map_nil, List.length_cons, List.length_nil, List.cons_append, List.nil_append, List.append_nil, List.set_cons_succ, List.set_cons_zero, List.getElem?_cons_zero, List.getElem?_cons_succ, List.getD_cons_zero, List.getD_cons_succ, List.headD_cons, Option.isSome_some, Bool.not_true, Bool.not_false, Bool.false_eq_true, if_true, if_false, true_and, and_true, decide_eq_true_eq, decide_true, decide_false, Nat.zero_add, reduceIte, reduceCtorEq, res_refD gput_same]
    simp only [List.length_nil, Nat.add_zero] at hl'
    rw [if_neg (by omega)]
    refine q kvs' hk' fun x => ?_
    rw [← hx x]
    simp
  · funext b
    unfold gput
    split
    · rename_i h; rw [h]; exact hd
    · rfl
/-- a rule's parts hold in some facts -/
def ruH (had : List T) (r : T) : Bool := (bodyOf r).all (ptH had)
theorem stF_congr {h1 h2 : List T} {w : PySem.Str} {a : T} (h : a ∈ h1 ↔ a ∈ h2) : stF h1 w a = stF h2 w a := by
  unfold stF
  rw [decide_eq_decide.mpr h]
theorem sh_ne {goal a : T} (h : shT a ≠ shT goal) : a ≠ goal := fun z => h (by rw [z])
theorem ruH_congr {goal r : T} {h1 h2 : List T} (hr : Rl goal r) (h : ∀ x, x ≠ goal → (x ∈ h1 ↔ x ∈ h2)) : ruH h1 r = ruH h2 r := by
  obtain ⟨ps, rfl, hp, _⟩ := hr.ex
  show ps.all (ptH h1) = ps.all (ptH h2)
  have go : ∀ qs : List T, (∀ q ∈ qs, q ∈ ps) → qs.all (ptH h1) = qs.all (ptH h2) := by
    intro qs
    induction qs with
    | nil => intro _; rfl
    | cons q qs ih =>
      intro hq
      obtain ⟨w, a, ⟨rfl, _⟩, _, hn⟩ := hp q (hq q (List.mem_cons_self ..))
      rw [List.all_cons, List.all_cons, ih fun u hu => hq u (List.mem_cons_of_mem _ hu)]
      show (stF h1 w a && _) = (stF h2 w a && _)
      rw [stF_congr (h a (sh_ne hn))]
  exact go ps fun _ h => h
theorem any_congr' {rs : List T} {p q : T → Bool} (h : ∀ r ∈ rs, p r = q r) : rs.any p = rs.any q := by
  induction rs with
  | nil => rfl
  | cons r rs ih => rw [List.any_cons, List.any_cons, h r (List.mem_cons_self ..), ih fun u hu => h u (List.mem_cons_of_mem _ hu)]
theorem anyH_congr {goal : T} {rs h1 h2 : List T} (hR : ∀ r ∈ rs, Rl goal r) (h : ∀ x, x ≠ goal → (x ∈ h1 ↔ x ∈ h2)) : rs.any (ruH h1) = rs.any (ruH h2) := any_congr' fun r hr => ruH_congr (hR r hr) h
theorem Rl.parts {goal : T} {ps : List T} (h : Rl goal (ruT goal ps)) : ∀ p ∈ ps, ∃ w a, Pt p w a := by
  obtain ⟨qs, e, hp, _⟩ := h.ex
  have e2 : bodyOf (ruT goal ps) = bodyOf (ruT goal qs) := by rw [e]
  have e3 : ps = qs := e2
  subst e3
  intro p hp'
  obtain ⟨w, a, h, _⟩ := hp p hp'
  exact ⟨w, a, h⟩
def sp_goon (P : Addr) : TSp := fun ds g Q _ => ∃ goal rs a kvs, ds = [.lst rs, .ref a] ∧ RsOk goal rs ∧ Fc goal ∧ g a = some (.dct kvs) ∧ Tk kvs ∧ kvs.length ≤ 200 ∧ tabB g P ∧
  ∀ g' kvs', Sub1 a g g' → g' a = some (.dct kvs') → Tk kvs' → (∀ x, x ∈ mk1 kvs' ↔ x ∈ mk1 kvs ∨ (x = goal ∧ rs.any (ruH (mk1 kvs)) = true)) → Q .non g'
theorem tab_ne {g : G} {P a : Addr} {l c : Nat} {q : PySem.Str} {kvs : List (T × T)} (h : TabAt g P l c q) (e : g a = some (.dct kvs)) : P ≠ a := fun z => by
  obtain ⟨nm, h, _⟩ := h
  rw [z, e] at h
  cases h
theorem TabAt.sub1 {g g' : G} {P a : Addr} {l c : Nat} {q : PySem.Str} (h : TabAt g P l c q) (n : P ≠ a) (s : Sub1 a g g') : TabAt g' P l c q := by
  obtain ⟨nm, e, h⟩ := h
  exact ⟨nm, s _ _ n e, h⟩
/-- the table with the goal, where it is given -/
def WithG (goal : T) (b : Bool) (kvs kvs' : List (T × T)) : Prop := ∀ x, x ∈ mk1 kvs' ↔ x ∈ mk1 kvs ∨ (x = goal ∧ b = true)
theorem WithG.len {goal : T} {b : Bool} {kvs kvs' : List (T × T)} (h : WithG goal b kvs kvs') (hk : Tk kvs') : kvs'.length ≤ kvs.length + 1 := by
  have := nodup_len (l := mk1 kvs') (m := goal :: mk1 kvs) hk.nd fun x hx => by
    rcases (h x).mp hx with h | h
    · exact List.mem_cons_of_mem _ h
    · rw [h.1]; exact List.mem_cons_self ..
  simp only [List.length_cons, mk1_len] at this
  exact this
theorem same_len {kvs kvs' : List (T × T)} (h : ∀ x, x ∈ mk1 kvs' ↔ x ∈ mk1 kvs) (h1 : Tk kvs) (h2 : Tk kvs') : kvs'.length = kvs.length := by
  have := ((List.perm_ext_iff_of_nodup h2.nd h1.nd).mpr h).length_eq
  simpa [mk1_len] using this
theorem p_go_on (P : Addr) (ds : List T) (g : G) (Q : K1) (h : sp_goon P ds g Q noX) : t_go_on sp_take (sp_gives P) { nx := fun _ g' => Q .non g', rt := Q } (TL.startT N_go_on ds) g := by
  obtain ⟨goal, rs, a, kvs, rfl, hR, hg, hd, hk, hl, tb, q⟩ := h
  have hPa := tab_ne tb hd
  unfold t_go_on
  simp only [qSeq, qAsg, qC, uNeg, gtName, TL.startT, List.replicate, List.map_cons, List.map_nil, List.length_cons, List.length_nil, List.cons_append, List.nil_append, List.set_cons_succ, List.set_cons_zero, Nat.zero_add, qWhile]
  -- one round
  have round : ∀ (kvs0 : List (T × T)) (g0 : G) (x2 x3 x4 x5 : Option T) (turn : Int) (K C B : TSt → G → Prop) (R : K1), Sub1 a g g0 → g0 a = some (.dct kvs0) → Tk kvs0 → kvs0.length ≤ 201 →
      (∀ g1 kvs1 y4 y5, Sub1 a g g1 → g1 a = some (.dct kvs1) → Tk kvs1 → WithG goal (rs.any (ruH (mk1 kvs0))) kvs0 kvs1 → K [some (.lst rs), some (.ref a), some (.int (turn + 1)), some (.int (kvs0.length : Nat)), y4, y5] g1) →
      (qSeq (qAsg (qCB bLen (qCons (qVar 1) qNil)) (gtName 3)) (qSeq (qAug 2 (qC (.int 1)) riAdd) (qSeq (qAsg (qFrz (qCB bList (qCons (qVar 1) qNil))) (gtName 4)) (qFor (iLst (qVar 0)) (gtName 5) (qDrop (qCall sp_take [] (qCons (qVar 1) (qCons (qCall (sp_gives P) [] (qCons (qVar 5) (qCons (qVar 4) qNil))) (qCons (qVar 2) qNil)))))))))
        { nx := K, rt := R, bk := B, ct := C } [some (.lst rs), some (.ref a), some (.int turn), x3, x4, x5] g0 := by
    intro kvs0 g0 x2 x3 x4 x5 turn K C B R hs hd hk hl hK
    simp only [qFrz_k, frzK_lst, frzK_dct, frzK_tup, qSeq, qIfS, qOr, qNot, qAnd, qTB, qCB, qCons, qNil, qTup, qLstF, qVar, qC, sl, bIsi, c2, c1, m0, m1, m2, res_tup, res_lst', res_int, res_str, res_bl, res_non, res_dct, res_ty, tyN, isStr, TL.isInt, TL.isTup, TL.isBool, TL.isLst, isN, isB, qIf, qChain, cLe, cLt, cGt, cGe, cEq, cNe, cEqV, cIn, cNotIn, cIsN, cNotN, n2, bLen, lenV, bInt, bTup, qNext, qRet, qRetN, qDrop, qAndV, qOrV, qNotV, qOp, aIx, ixV, idx, aSub, aMul, aMod, aFdiv, uNeg, riAdd, riSub, qCall, qAsg, gtName, gtTup, gtCons, gtNil, iLst, iTp, qFor, TL.startT, List.replicate, List.map_cons, List.map_nil, List.length_cons, List.length_nil, List.cons_append, List.nil_append, List.append_nil, List.set_cons_succ, List.set_cons_zero, List.getElem?_cons_zero, List.getElem?_cons_succ, List.getD_cons_zero, List.getD_cons_succ, List.headD_cons, Option.isSome_some, Bool.not_true, Bool.not_false, Bool.false_eq_true, if_true, if_false, true_and, and_true, decide_eq_true_eq, decide_true, decide_false, Nat.zero_add, reduceIte, reduceCtorEq, qAug, res_refD hd, bList]
    intro p hp
    rw [frzK_putL hp]
    refine wFor_I (fun us δ g' => Sub1 a g g' ∧ (∀ u ∈ us, u ∈ rs) ∧ ∃ kvs1 b y5, δ = [some (.lst rs), some (.ref a), some (.int (turn + 1)), some (.int (kvs0.length : Nat)), some (.lst (mk1 kvs0)), y5] ∧ g' a = some (.dct kvs1) ∧ Tk kvs1 ∧ WithG goal b kvs0 kvs1 ∧ (b || us.any (ruH (mk1 kvs0))) = rs.any (ruH (mk1 kvs0))) (fun _ _ _ _ => trivial) ?_ ?_ _ _ _
      ⟨hs, fun _ h => h, kvs0, false, _, rfl, hd, hk, fun x => by simp, by simp⟩
    · rintro r us δ g' ⟨hs, hm, kvs1, b, y5, rfl, hd1, hk1, hw, hb⟩ K2 hK2
      have hrm := hm r (List.mem_cons_self ..)
      have hrl := hR.1 r hrm
      obtain ⟨ps, rfl, _⟩ := hrl.ex
      have hl1 := hw.len hk1
      simp only [qFrz_k, frzK_lst, frzK_dct, frzK_tup, qSeq, qIfS, qOr, qNot, qAnd, qTB, qCB, qCons, qNil, qTup, qLstF, qVar, qC, sl, bIsi, c2, c1, m0, m1, m2, res_tup, res_lst', res_int, res_str, res_bl, res_non, res_dct, res_ty, tyN, isStr, TL.isInt, TL.isTup, TL.isBool, TL.isLst, isN, isB, qIf, qChain, cLe, cLt, cGt, cGe, cEq, cNe, cEqV, cIn, cNotIn, cIsN, cNotN, n2, bLen, lenV, bInt, bTup, qNext, qRet, qRetN, qDrop, qAndV, qOrV, qNotV, qOp, aIx, ixV, idx, aSub, aMul, aMod, aFdiv, uNeg, riAdd, riSub, qCall, qAsg, gtName, gtTup, gtCons, gtNil, iLst, iTp, qFor, TL.startT, List.replicate, List.map_cons, List.map_nil, List.length_cons, List.length_nil, List.cons_append, List.nil_append, List.append_nil, List.set_cons_succ, List.set_cons_zero, List.getElem?_cons_zero, List.getElem?_cons_succ, List.getD_cons_zero, List.getD_cons_succ, List.headD_cons, Option.isSome_some, Bool.not_true, Bool.not_false, Bool.false_eq_true, if_true, if_false, true_and, and_true, decide_eq_true_eq, decide_true, decide_false, Nat.zero_add, reduceIte, reduceCtorEq]
      refine ⟨goal, ps, _, rfl, hg, hrl.parts, fun t ht => hk.fc t ht, by rw [mk1_len, sizeLine_eq]; omega, tb.sub1 hPa hs, fun g2 hs2 => ?_⟩
      have hgv : ∀ t ∈ gvT goal (ps.all (ptH (mk1 kvs0))), t = goal := fun t ht => by unfold gvT at ht; split at ht <;> simp at ht; exact ht
      refine ⟨a, kvs1, _, _, rfl, hs2 _ _ hd1, fun t ht => by rw [hgv t ht]; exact hg, hk1, ?_, fun kvs2 hk2 hx => ?_⟩
      · have : (gvT goal (ps.all (ptH (mk1 kvs0)))).length ≤ 1 := by unfold gvT; split <;> simp
        omega
      · refine hK2 _ _ ⟨(hs.trans hs2.sub1).put2, fun u hu => hm u (List.mem_cons_of_mem _ hu), kvs2, b || ps.all (ptH (mk1 kvs0)), _, rfl, gput_same, hk2, fun x => ?_, ?_⟩
        · rw [hx x, hw x]
          have e : x ∈ gvT goal (ps.all (ptH (mk1 kvs0))) ↔ x = goal ∧ ps.all (ptH (mk1 kvs0)) = true := by
            unfold gvT
            by_cases hq : ps.all (ptH (mk1 kvs0)) = true
            · rw [if_pos hq]; simp [hq]
            · rw [if_neg hq]; simp [hq]
          rw [e, Bool.or_eq_true]
          constructor
          · rintro ((h | ⟨h1, h2⟩) | ⟨h1, h2⟩)
            · exact .inl h
            · exact .inr ⟨h1, .inl h2⟩
            · exact .inr ⟨h1, .inr h2⟩
          · rintro (h | ⟨h1, h2 | h2⟩)
            · exact .inl (.inl h)
            · exact .inl (.inr ⟨h1, h2⟩)
            · exact .inr ⟨h1, h2⟩
        · rw [← hb, List.any_cons, Bool.or_assoc]
          rfl
    · rintro δ g' ⟨hs, hm, kvs1, b, y5, rfl, hd1, hk1, hw, hb⟩
      simp only [List.any_nil, Bool.or_false] at hb
      subst hb
      exact hK _ _ _ _ hs hd1 hk1 hw
  refine ⟨3, wWhile_I (fun n δ g' => Sub1 a g g' ∧ ∃ kvs1 turn ah y4 y5, δ = [some (.lst rs), some (.ref a), some (.int turn), some (.int ah), y4, y5] ∧ g' a = some (.dct kvs1) ∧ Tk kvs1 ∧ ((n = 2 ∧ ah = -1 ∧ kvs1 = kvs) ∨ (n = 1 ∧ ah = (kvs.length : Nat) ∧ WithG goal (rs.any (ruH (mk1 kvs))) kvs kvs1) ∨ (n = 0 ∧ ah = (kvs1.length : Nat) ∧ WithG goal (rs.any (ruH (mk1 kvs))) kvs kvs1))) ?_ 2 _ _ ⟨Sub1.refl, kvs, _, _, _, _, rfl, hd, hk, .inl ⟨rfl, rfl, rfl⟩⟩⟩
  rintro n δ g' ⟨hs, kvs1, turn, ah, y4, y5, rfl, hd1, hk1, hc⟩
  refine ⟨decide (ah < (kvs1.length : Nat)), g', fun R hR => by simp only [qFrz_k, frzK_lst, frzK_dct, frzK_tup, qSeq, qIfS, qOr, qNot, qAnd, qTB, qCB, qCons, qNil, qTup, qLstF, qVar, qC, sl, bIsi, c2, c1, m0, m1, m2, res_tup, res_lst', res_int, res_str, res_bl, res_non, res_dct, res_ty, tyN, isStr, TL.isInt, TL.isTup, TL.isBool, TL.isLst, isN, isB, qIf, qChain, cLe, cLt, cGt, cGe, cEq, cNe, cEqV, cIn, cNotIn, cIsN, cNotN, n2, bLen, lenV, bInt, bTup, qNext, qRet, qRetN, qDrop, qAndV, qOrV, qNotV, qOp, aIx, ixV, idx, aSub, aMul, aMod, aFdiv, uNeg, riAdd, riSub, qCall, qAsg, gtName, gtTup, gtCons, gtNil, iLst, iTp, qFor, TL.startT, List.replicate, List.map_cons, List.map_nil, List.length_cons, List.length_nil, List.cons_append, List.nil_append, List.append_nil, List.set_cons_succ, List.set_cons_zero, List.getElem?_cons_zero, List.getElem?_cons_succ, List.getD_cons_zero, List.getD_cons_succ, List.headD_cons, Option.isSome_some, Bool.not_true, Bool.not_false, Bool.false_eq_true, if_true, if_false, true_and, and_true, decide_eq_true_eq, decide_true, decide_false, Nat.zero_add, reduceIte, reduceCtorEq, res_refD hd1]; exact hR, ?_⟩
  rcases hc with ⟨rfl, rfl, rfl⟩ | ⟨rfl, rfl, hw⟩ | ⟨rfl, rfl, hw⟩
  · rw [if_pos (by simp; omega)]
    refine ⟨1, rfl, fun K hK => round kvs1 g' none _ _ _ _ _ _ _ _ hs hd1 hk1 (by omega) fun g1 kvs2 z4 z5 h1 h2 h3 h4 => hK _ _ ⟨h1, kvs2, _, _, _, _, rfl, h2, h3, .inr (.inl ⟨rfl, rfl, h4⟩)⟩⟩
  · have hl1 := hw.len hk1
    by_cases hlt : ((kvs.length : Nat) : Int) < (kvs1.length : Nat)
    · rw [if_pos (by simpa using hlt)]
      refine ⟨0, rfl, fun K hK => round kvs1 g' none _ _ _ _ _ _ _ _ hs hd1 hk1 (by omega) fun g1 kvs2 z4 z5 h1 h2 h3 h4 => ?_⟩
      have e : rs.any (ruH (mk1 kvs1)) = rs.any (ruH (mk1 kvs)) := anyH_congr hR.1 fun x hx => by rw [hw x]; simp [hx]
      have hsame : ∀ x, x ∈ mk1 kvs2 ↔ x ∈ mk1 kvs1 := fun x => by
        rw [h4 x, e, hw x]
        constructor
        · rintro (h | h)
          · exact h
          · exact .inr h
        · exact .inl
      refine hK _ _ ⟨h1, kvs2, _, _, _, _, rfl, h2, h3, .inr (.inr ⟨rfl, by rw [same_len hsame hk1 h3], fun x => ?_⟩)⟩
      rw [hsame x, hw x]
    · rw [if_neg (by simpa using hlt)]
      exact q _ _ hs hd1 hk1 hw
  · rw [if_neg (by simp)]
    exact q _ _ hs hd1 hk1 hw
end K82
set_option Elab.async false
set_option linter.all false
set_option maxRecDepth 100000
set_option maxHeartbeats 4000000
namespace K82
open PySem PySem.Spec L2 PyProof.Rows TL
theorem look_of_mem : ∀ {kvs : List (T × T)} {p : T × T}, (mk1 kvs).Nodup → p ∈ kvs → look kvs p.1 = some p.2
  | q :: r, p, h, hp => by
    have h1 : (q.1 :: mk1 r).Nodup := h
    rcases List.mem_cons.mp hp with rfl | hp
    · exact look_pos rfl
    · have hne : ¬ q.1 = p.1 := fun z => (List.nodup_cons.mp h1).1 (z ▸ List.mem_map.mpr ⟨p, hp, rfl⟩)
      rw [look_neg hne]
      exact look_of_mem (List.nodup_cons.mp h1).2 hp
theorem ints_of : ∀ {l : List T}, (∀ t ∈ l, ∃ n : Int, t = .int n) → ∃ ns, intsT l = some ns
  | [], _ => ⟨[], rfl⟩
  | t :: l, h => by
    obtain ⟨n, rfl⟩ := h t (List.mem_cons_self ..)
    obtain ⟨ns, e⟩ := ints_of (l := l) fun u hu => h u (List.mem_cons_of_mem _ hu)
    exact ⟨n :: ns, by simp only [intsT, e, Option.map_some]⟩
theorem NI.vals {goal : T} {rs : List T} {kvs : List (T × T)} (h : NI goal rs (lvl rs) kvs) : ∃ ns, intsT (kvs.map (·.2)) = some ns ∧ ns.length < 64 ∧ lvl rs ∈ ns := by
  have hv : ∀ p ∈ kvs, p.2 = .int (lvl rs) ∨ p.2 = .int 0 := fun p hp => by
    have e := look_of_mem h.nd hp
    by_cases hs : p.1 = shT goal
    · rw [hs, h.at_] at e
      exact .inl (Option.some.inj e).symm
    · rw [h.els p.1 hs (List.mem_map.mpr ⟨p, hp, rfl⟩)] at e
      exact .inr (Option.some.inj e).symm
  obtain ⟨ns, e⟩ := ints_of (l := kvs.map (·.2)) fun t ht => by
    obtain ⟨p, hp, rfl⟩ := List.mem_map.mp ht
    rcases hv p hp with e | e <;> exact ⟨_, e⟩
  have em := intsT_map e
  refine ⟨ns, e, ?_, ?_⟩
  · have : ns.length = kvs.length := by
      have := congrArg List.length em
      simpa using this.symm
    have := h.len
    omega
  · have hi : shT goal ∈ mk1 kvs := look_mem.mp (by rw [h.at_]; rfl)
    obtain ⟨p, hp, e1⟩ := List.mem_map.mp hi
    have e2 := look_of_mem h.nd hp
    rw [e1, h.at_] at e2
    have hm : T.int (lvl rs) ∈ ns.map T.int := by
      rw [← em]
      exact List.mem_map.mpr ⟨p, hp, (Option.some.inj e2).symm⟩
    obtain ⟨n, hn, e3⟩ := List.mem_map.mp hm
    cases e3
    exact hn
def RsOk.nil (goal : T) : RsOk goal [] := ⟨fun _ h => (by cases h), by simp⟩
def sp_ages (P : Addr) : TSp := fun ds g Q _ => ∃ goal rs fs, ds = [.lst rs, .lst fs] ∧ RsOk goal rs ∧ Fc goal ∧ rs ≠ [] ∧ (∀ t ∈ fs, Fc t) ∧ fs.length ≤ 100 ∧ tabB g P ∧
  ∀ g' kvs, Sub g g' → Tk kvs → kvs.length ≤ 101 → (∀ x, x ∈ mk1 kvs ↔ x ∈ fs ∨ (x = goal ∧ rs.any (ruH fs) = true)) → Q (.dct kvs) g'
theorem filterMap_none {α β : Type} (l : List α) : l.filterMap (fun _ => (none : Option β)) = [] := by induction l <;> simp_all
theorem p_ages (P : Addr) (ds : List T) (g : G) (Q : K1) (h : sp_ages P ds g Q noX) : t_ages sp_layers sp_take (sp_goon P) sp_rshape { nx := fun _ g' => Q .non g', rt := Q } (TL.startT N_ages ds) g := by
  obtain ⟨goal, rs, fs, rfl, hR, hg, hne, hf, hl, tb, q⟩ := h
  unfold t_ages
  simp only [qFrz_k, frzK_lst, frzK_dct, frzK_tup, qSeq, qIfS, qOr, qNot, qAnd, qTB, qCB, qCons, qNil, qTup, qLstF, qVar, qC, sl, bIsi, c2, c1, m0, m1, m2, res_tup, res_lst', res_int, res_str, res_bl, res_non, res_dct, res_ty, tyN, isStr, TL.isInt, TL.isTup, TL.isBool, TL.isLst, isN, isB, qIf, qChain, cLe, cLt, cGt, cGe, cEq, cNe, cEqV, cIn, cNotIn, cIsN, cNotN, n2, bLen, lenV, bInt, bTup, qNext, qRet, qRetN, qDrop, qAndV, qOrV, qNotV, qOp, aIx, ixV, idx, aSub, aMul, aMod, aFdiv, uNeg, riAdd, riSub, qCall, qAsg, gtName, gtTup, gtCons, gtNil, iLst, iTp, qFor, TL.startT, List.replicate, List.map_cons, List.map_nil, List.length_cons, List.length_nil, List.cons_append, List.nil_append, List.append_nil, List.set_cons_succ, List.set_cons_zero, List.getElem?_cons_zero, List.getElem?_cons_succ, List.getD_cons_zero, List.getD_cons_succ, List.headD_cons, Option.isSome_some, Bool.not_true, Bool.not_false, Bool.false_eq_true, if_true, if_false, true_and, and_true, decide_eq_true_eq, decide_true, decide_false, Nat.zero_add, reduceIte, reduceCtorEq]
  refine ⟨goal, rs, rfl, hR, hg, hne, fun g1 nums hs1 hN => ?_⟩
  obtain ⟨ns0, hi, hlen, hlv⟩ := hN.vals
  simp only [qFrz_k, frzK_lst, frzK_dct, frzK_tup, qSeq, qIfS, qOr, qNot, qAnd, qTB, qCB, qCons, qNil, qTup, qLstF, qVar, qC, sl, bIsi, c2, c1, m0, m1, m2, res_tup, res_lst', res_int, res_str, res_bl, res_non, res_dct, res_ty, tyN, isStr, TL.isInt, TL.isTup, TL.isBool, TL.isLst, isN, isB, qIf, qChain, cLe, cLt, cGt, cGe, cEq, cNe, cEqV, cIn, cNotIn, cIsN, cNotN, n2, bLen, lenV, bInt, bTup, qNext, qRet, qRetN, qDrop, qAndV, qOrV, qNotV, qOp, aIx, ixV, idx, aSub, aMul, aMod, aFdiv, uNeg, riAdd, riSub, qCall, qAsg, gtName, gtTup, gtCons, gtNil, iLst, iTp, qFor, TL.startT, List.replicate, List.map_cons, List.map_nil, List.length_cons, List.length_nil, List.cons_append, List.nil_append, List.append_nil, List.set_cons_succ, List.set_cons_zero, List.getElem?_cons_zero, List.getElem?_cons_succ, List.getD_cons_zero, List.getD_cons_succ, List.headD_cons, Option.isSome_some, Bool.not_true, Bool.not_false, Bool.false_eq_true, if_true, if_false, true_and, and_true, decide_eq_true_eq, decide_true, decide_false, Nat.zero_add, reduceIte, reduceCtorEq, qDict0]
  intro pd hpd
  have hpd0 : g pd = none := pd_none hs1 hpd
  have hsg : ∀ g, res g (shT goal) = shT goal := fun g => by obtain ⟨x, r, _, _, _, e⟩ := hg.sh; rw [e]; rfl
  refine ⟨pd, [], fs, 0, rfl, gput_same, hf, ⟨fun x hx => (by cases hx), by simp [mk1]⟩, by simp; omega, fun kvs0 hk0 hx0 => ?_⟩
  rw [gput_put]
  have hx0' : ∀ x, x ∈ mk1 kvs0 ↔ x ∈ fs := fun x => by rw [hx0 x]; simp [mk1]
  simp only [qFrz_k, frzK_lst, frzK_dct, frzK_tup, qSeq, qIfS, qOr, qNot, qAnd, qTB, qCB, qCons, qNil, qTup, qLstF, qVar, qC, sl, bIsi, c2, c1, m0, m1, m2, res_tup, res_lst', res_int, res_str, res_bl, res_non, res_dct, res_ty, tyN, isStr, TL.isInt, TL.isTup, TL.isBool, TL.isLst, isN, isB, qIf, qChain, cLe, cLt, cGt, cGe, cEq, cNe, cEqV, cIn, cNotIn, cIsN, cNotN, n2, bLen, lenV, bInt, bTup, qNext, qRet, qRetN, qDrop, qAndV, qOrV, qNotV, qOp, aIx, ixV, idx, aSub, aMul, aMod, aFdiv, uNeg, riAdd, riSub, qCall, qAsg, gtName, gtTup, gtCons, gtNil, iLst, iTp, qFor, TL.startT, List.replicate, List.map_cons, List.map_nil, List.length_cons, List.length_nil, List.cons_append, List.nil_append, List.append_nil, List.set_cons_succ, List.set_cons_zero, List.getElem?_cons_zero, List.getElem?_cons_succ, List.getD_cons_zero, List.getD_cons_succ, List.headD_cons, Option.isSome_some, Bool.not_true, Bool.not_false, Bool.false_eq_true, if_true, if_false, true_and, and_true, decide_eq_true_eq, decide_true, decide_false, Nat.zero_add, reduceIte, reduceCtorEq, qSortSet, qLV]
  intro p hp
  rw [frzK_putL hp]
  simp only [qFrz_k, frzK_lst, frzK_dct, frzK_tup, qSeq, qIfS, qOr, qNot, qAnd, qTB, qCB, qCons, qNil, qTup, qLstF, qVar, qC, sl, bIsi, c2, c1, m0, m1, m2, res_tup, res_lst', res_int, res_str, res_bl, res_non, res_dct, res_ty, tyN, isStr, TL.isInt, TL.isTup, TL.isBool, TL.isLst, isN, isB, qIf, qChain, cLe, cLt, cGt, cGe, cEq, cNe, cEqV, cIn, cNotIn, cIsN, cNotN, n2, bLen, lenV, bInt, bTup, qNext, qRet, qRetN, qDrop, qAndV, qOrV, qNotV, qOp, aIx, ixV, idx, aSub, aMul, aMod, aFdiv, uNeg, riAdd, riSub, qCall, qAsg, gtName, gtTup, gtCons, gtNil, iLst, iTp, qFor, TL.startT, List.replicate, List.map_cons, List.map_nil, List.length_cons, List.length_nil, List.cons_append, List.nil_append, List.append_nil, List.set_cons_succ, List.set_cons_zero, List.getElem?_cons_zero, List.getElem?_cons_succ, List.getD_cons_zero, List.getD_cons_succ, List.headD_cons, Option.isSome_some, Bool.not_true, Bool.not_false, Bool.false_eq_true, if_true, if_false, true_and, and_true, decide_eq_true_eq, decide_true, decide_false, Nat.zero_add, reduceIte, reduceCtorEq, hi]
  refine ⟨hlen, fun out hpw hmem => ?_⟩
  -- the length of a table with these keys
  have hlen' : ∀ (b : Bool) (kvs : List (T × T)), Tk kvs → (∀ x, x ∈ mk1 kvs ↔ x ∈ fs ∨ (x = goal ∧ b = true)) → kvs.length ≤ 101 := fun b kvs hk hx => by
    have := nodup_len (l := mk1 kvs) (m := goal :: fs) hk.nd fun x h => by
      rcases (hx x).mp h with h | h
      · exact List.mem_cons_of_mem _ h
      · rw [h.1]; exact List.mem_cons_self ..
    simp only [List.length_cons, mk1_len] at this
    omega
  refine wFor_I (fun us δ g' => Sub1 pd g1 g' ∧ ∃ ns kvs x4 x5, us = ns.map T.int ∧ ns.Pairwise (· < ·) ∧ δ = [some (.lst rs), some (.lst fs), some (.dct nums), some (.ref pd), x4, x5] ∧ g' pd = some (.dct kvs) ∧ Tk kvs ∧ ∀ x, x ∈ mk1 kvs ↔ x ∈ fs ∨ (x = goal ∧ decide (lvl rs ∉ ns ∧ rs.any (ruH fs) = true) = true)) (fun _ _ _ _ => trivial) ?_ ?_ _ _ _
    ⟨Sub1.put, out, kvs0, _, _, rfl, hpw, rfl, gput_same, hk0, fun x => ?_⟩
  · rintro t us δ g' ⟨hs, ns, kvs, x4, x5, hus, hpw, rfl, hd, hk, hx⟩ K hK
    cases ns with
    | nil => cases hus
    | cons n ns =>
      simp only [List.map_cons, List.cons.injEq] at hus
      obtain ⟨rfl, rfl⟩ := hus
      obtain ⟨hn1, hn2⟩ := List.pairwise_cons.mp hpw
      simp only [qFrz_k, frzK_lst, frzK_dct, frzK_tup, qSeq, qIfS, qOr, qNot, qAnd, qTB, qCB, qCons, qNil, qTup, qLstF, qVar, qC, sl, bIsi, c2, c1, m0, m1, m2, res_tup, res_lst', res_int, res_str, res_bl, res_non, res_dct, res_ty, tyN, isStr, TL.isInt, TL.isTup, TL.isBool, TL.isLst, isN, isB, qIf, qChain, cLe, cLt, cGt, cGe, cEq, cNe, cEqV, cIn, cNotIn, cIsN, cNotN, n2, bLen, lenV, bInt, bTup, qNext, qRet, qRetN, qDrop, qAndV, qOrV, qNotV, qOp, aIx, ixV, idx, aSub, aMul, aMod, aFdiv, uNeg, riAdd, riSub, qCall, qAsg, gtName, gtTup, gtCons, gtNil, iLst, iTp, qFor, TL.startT, List.replicate, List.map_cons, List.map_nil, List.length_cons, List.length_nil, List.cons_append, List.nil_append, List.append_nil, List.set_cons_succ, List.set_cons_zero, List.getElem?_cons_zero, List.getElem?_cons_succ, List.getD_cons_zero, List.getD_cons_succ, List.headD_cons, Option.isSome_some, Bool.not_true, Bool.not_false, Bool.false_eq_true, if_true, if_false, true_and, and_true, decide_eq_true_eq, decide_true, decide_false, Nat.zero_add, reduceIte, reduceCtorEq]
      refine lcK (F := fun r => if lvl rs = n then some r else none) (ts := rs) (kp := yes) (fun R h => h) (fun _ _ => trivial) (fun r hr g'' K hs' hk' => ?_) (by have := hR.2; rw [sizeLine_eq]; omega) ?_
      · obtain ⟨ps, rfl, _⟩ := (hR.1 r hr).ex
        simp only [qFrz_k, frzK_lst, frzK_dct, frzK_tup, qSeq, qIfS, qOr, qNot, qAnd, qTB, qCB, qCons, qNil, qTup, qLstF, qVar, qC, sl, bIsi, c2, c1, m0, m1, m2, res_tup, res_lst', res_int, res_str, res_bl, res_non, res_dct, res_ty, tyN, isStr, TL.isInt, TL.isTup, TL.isBool, TL.isLst, isN, isB, qIf, qChain, cLe, cLt, cGt, cGe, cEq, cNe, cEqV, cIn, cNotIn, cIsN, cNotN, n2, bLen, lenV, bInt, bTup, qNext, qRet, qRetN, qDrop, qAndV, qOrV, qNotV, qOp, aIx, ixV, idx, aSub, aMul, aMod, aFdiv, uNeg, riAdd, riSub, qCall, qAsg, gtName, gtTup, gtCons, gtNil, iLst, iTp, qFor, TL.startT, List.replicate, List.map_cons, List.map_nil, List.length_cons, List.length_nil, List.cons_append, List.nil_append, List.append_nil, List.set_cons_succ, List.set_cons_zero, List.getElem?_cons_zero, List.getElem?_cons_succ, List.getD_cons_zero, List.getD_cons_succ, List.headD_cons, Option.isSome_some, Bool.not_true, Bool.not_false, Bool.false_eq_true, if_true, if_false, true_and, and_true, decide_eq_true_eq, decide_true, decide_false, Nat.zero_add, reduceIte, reduceCtorEq, wipeT]
        refine rshape_ok hg ?_
        simp only [qFrz_k, frzK_lst, frzK_dct, frzK_tup, qSeq, qIfS, qOr, qNot, qAnd, qTB, qCB, qCons, qNil, qTup, qLstF, qVar, qC, sl, bIsi, c2, c1, m0, m1, m2, res_tup, res_lst', res_int, res_str, res_bl, res_non, res_dct, res_ty, tyN, isStr, TL.isInt, TL.isTup, TL.isBool, TL.isLst, isN, isB, qIf, qChain, cLe, cLt, cGt, cGe, cEq, cNe, cEqV, cIn, cNotIn, cIsN, cNotN, n2, bLen, lenV, bInt, bTup, qNext, qRet, qRetN, qDrop, qAndV, qOrV, qNotV, qOp, aIx, ixV, idx, aSub, aMul, aMod, aFdiv, uNeg, riAdd, riSub, qCall, qAsg, gtName, gtTup, gtCons, gtNil, iLst, iTp, qFor, TL.startT, List.replicate, List.map_cons, List.map_nil, List.length_cons, List.length_nil, List.cons_append, List.nil_append, List.append_nil, List.set_cons_succ, List.set_cons_zero, List.getElem?_cons_zero, List.getElem?_cons_succ, List.getD_cons_zero, List.getD_cons_succ, List.headD_cons, Option.isSome_some, Bool.not_true, Bool.not_false, Bool.false_eq_true, if_true, if_false, true_and, and_true, decide_eq_true_eq, decide_true, decide_false, Nat.zero_add, reduceIte, reduceCtorEq, hsg]
        refine ⟨kOk_t hg.shK hN.key, ?_⟩
        rw [hN.at_]
        simp only [qFrz_k, frzK_lst, frzK_dct, frzK_tup, qSeq, qIfS, qOr, qNot, qAnd, qTB, qCB, qCons, qNil, qTup, qLstF, qVar, qC, sl, bIsi, c2, c1, m0, m1, m2, res_tup, res_lst', res_int, res_str, res_bl, res_non, res_dct, res_ty, tyN, isStr, TL.isInt, TL.isTup, TL.isBool, TL.isLst, isN, isB, qIf, qChain, cLe, cLt, cGt, cGe, cEq, cNe, cEqV, cIn, cNotIn, cIsN, cNotN, n2, bLen, lenV, bInt, bTup, qNext, qRet, qRetN, qDrop, qAndV, qOrV, qNotV, qOp, aIx, ixV, idx, aSub, aMul, aMod, aFdiv, uNeg, riAdd, riSub, qCall, qAsg, gtName, gtTup, gtCons, gtNil, iLst, iTp, qFor, TL.startT, List.replicate, List.map_cons, List.map_nil, List.length_cons, List.length_nil, List.cons_append, List.nil_append, List.append_nil, List.set_cons_succ, List.set_cons_zero, List.getElem?_cons_zero, List.getElem?_cons_succ, List.getD_cons_zero, List.getD_cons_succ, List.headD_cons, Option.isSome_some, Bool.not_true, Bool.not_false, Bool.false_eq_true, if_true, if_false, true_and, and_true, decide_eq_true_eq, decide_true, decide_false, Nat.zero_add, reduceIte, reduceCtorEq]
        by_cases hq : lvl rs = n
        · simpa [hq] using hk'
        · simpa [hq] using hk'
      · have fin : ∀ rs', (rs' = if lvl rs = n then rs else []) → sp_goon P [.lst rs', .ref pd] g' (fun _ g1 => K [some (.lst rs), some (.lst fs), some (.dct nums), some (.ref pd), some (.int n), x5] g1) noX := by
          intro rs' e
          have hR' : RsOk goal rs' := by
            rw [e]
            split
            · exact hR
            · exact RsOk.nil goal
          have hPd : P ≠ pd := fun z => by
            obtain ⟨nm, h, _⟩ := tb
            rw [z, hpd0] at h
            cases h
          refine ⟨goal, rs', pd, kvs, rfl, hR', hg, hd, hk, by have := hlen' _ kvs hk hx; omega, (tb.sub hs1).sub1 hPd hs, fun g2 kvs2 hs2 hd2 hk2 hx2 => ?_⟩
          refine hK _ _ ⟨hs.trans hs2, ns, kvs2, _, _, rfl, hn2, rfl, hd2, hk2, fun x => ?_⟩
          have e2 : rs.any (ruH (mk1 kvs)) = rs.any (ruH fs) := anyH_congr hR.1 fun x hne => by rw [hx x]; simp [hne]
          rw [hx2 x, hx x]
          by_cases hq : lvl rs = n
          · subst hq
            have hnin : lvl rs ∉ ns := fun z => by have := hn1 _ z; omega
            rw [e, if_pos rfl, e2]
            simp [hnin]
          · have hq' : (lvl rs ∉ n :: ns) ↔ (lvl rs ∉ ns) := by simp [hq]
            rw [e, if_neg hq]
            simp only [List.any_nil, Bool.false_eq_true, and_false, or_false, hq']
        by_cases hq : lvl rs = n
        · simp only [hq, if_true]
          rw [List.filterMap_some]
          exact fin rs (by rw [if_pos hq])
        · simp only [hq, if_false]
          rw [filterMap_none]
          exact fin [] (by rw [if_neg hq])
  · rintro δ g' ⟨hs, ns, kvs, x4, x5, hus, hpw, rfl, hd, hk, hx⟩
    cases ns with
    | cons n ns => cases hus
    | nil =>
      simp only [qFrz_k, frzK_lst, frzK_dct, frzK_tup, qSeq, qIfS, qOr, qNot, qAnd, qTB, qCB, qCons, qNil, qTup, qLstF, qVar, qC, sl, bIsi, c2, c1, m0, m1, m2, res_tup, res_lst', res_int, res_str, res_bl, res_non, res_dct, res_ty, tyN, isStr, TL.isInt, TL.isTup, TL.isBool, TL.isLst, isN, isB, qIf, qChain, cLe, cLt, cGt, cGe, cEq, cNe, cEqV, cIn, cNotIn, cIsN, cNotN, n2, bLen, lenV, bInt, bTup, qNext, qRet, qRetN, qDrop, qAndV, qOrV, qNotV, qOp, aIx, ixV, idx, aSub, aMul, aMod, aFdiv, uNeg, riAdd, riSub, qCall, qAsg, gtName, gtTup, gtCons, gtNil, iLst, iTp, qFor, TL.startT, List.replicate, List.map_cons, List.map_nil, List.length_cons, List.length_nil, List.cons_append, List.nil_append, List.append_nil, List.set_cons_succ, List.set_cons_zero, List.getElem?_cons_zero, List.getElem?_cons_succ, List.getD_cons_zero, List.getD_cons_succ, List.headD_cons, Option.isSome_some, Bool.not_true, Bool.not_false, Bool.false_eq_true, if_true, if_false, true_and, and_true, decide_eq_true_eq, decide_true, decide_false, Nat.zero_add, reduceIte, reduceCtorEq]
      rw [frzK_refD hd]
      refine q _ _ (hs1.trans (hs.del hpd)) hk (hlen' _ kvs hk hx) fun x => ?_
      rw [hx x]
      simp
  · rw [hx0' x]
    have : lvl rs ∈ out := (hmem _).mpr hlv
    simp [this]
def sp_follows (P : Addr) : TSp := fun ds g Q _ => ∃ goal rs fs, ds = [.lst rs, .lst fs] ∧ RsOk goal rs ∧ Fc goal ∧ rs ≠ [] ∧ (∀ t ∈ fs, Fc t) ∧ fs.length ≤ 100 ∧ tabB g P ∧
  ∀ g' out, Sub g g' → (∀ t ∈ out, Fc t) → out.length ≤ 101 → (∀ x, x ∈ out ↔ x ∈ fs ∨ (x = goal ∧ rs.any (ruH fs) = true)) → Q (.lst out) g'
theorem p_follows (P : Addr) (ds : List T) (g : G) (Q : K1) (h : sp_follows P ds g Q noX) : t_follows sp_ordered (sp_ages P) { nx := fun _ g' => Q .non g', rt := Q } (TL.startT N_follows ds) g := by
  obtain ⟨goal, rs, fs, rfl, hR, hg, hne, hf, hl, tb, q⟩ := h
  unfold t_follows
  simp only [qFrz_k, frzK_lst, frzK_dct, frzK_tup, qSeq, qIfS, qOr, qNot, qAnd, qTB, qCB, qCons, qNil, qTup, qLstF, qVar, qC, sl, bIsi, c2, c1, m0, m1, m2, res_tup, res_lst', res_int, res_str, res_bl, res_non, res_dct, res_ty, tyN, isStr, TL.isInt, TL.isTup, TL.isBool, TL.isLst, isN, isB, qIf, qChain, cLe, cLt, cGt, cGe, cEq, cNe, cEqV, cIn, cNotIn, cIsN, cNotN, n2, bLen, lenV, bInt, bTup, qNext, qRet, qRetN, qDrop, qAndV, qOrV, qNotV, qOp, aIx, ixV, idx, aSub, aMul, aMod, aFdiv, uNeg, riAdd, riSub, qCall, qAsg, gtName, gtTup, gtCons, gtNil, iLst, iTp, qFor, TL.startT, List.replicate, List.map_cons, List.map_nil, List.length_cons, List.length_nil, List.cons_append, List.nil_append, List.append_nil, List.set_cons_succ, List.set_cons_zero, List.getElem?_cons_zero, List.getElem?_cons_succ, List.getD_cons_zero, List.getD_cons_succ, List.headD_cons, Option.isSome_some, Bool.not_true, Bool.not_false, Bool.false_eq_true, if_true, if_false, true_and, and_true, decide_eq_true_eq, decide_true, decide_false, Nat.zero_add, reduceIte, reduceCtorEq]
  refine ⟨goal, rs, fs, rfl, hR, hg, hne, hf, hl, tb, fun g' kvs hs hk hl' hx => ?_⟩
  refine ⟨.dct kvs, mk1 kvs, rfl, .inr ⟨kvs, rfl, rfl⟩, hk.fc, by rw [mk1_len, sizeLine_eq]; omega, fun out ho => ?_⟩
  refine q g' out hs (fun t ht => hk.fc t ((ho.2.1 t).mp ht)) (by have := ho.2.2.1; rw [mk1_len] at this; omega) fun x => ?_
  rw [ho.2.1 x, hx x]
/-- the goal stands -/
def stG (goal : T) (rs fs : List T) : Bool := decide (goal ∈ fs) || rs.any (ruH fs)
def sp_stands (P : Addr) : TSp := fun ds g Q _ => ∃ goal rs fs, ds = [.lst rs, .lst fs, goal] ∧ RsOk goal rs ∧ Fc goal ∧ rs ≠ [] ∧ (∀ t ∈ fs, Fc t) ∧ fs.length ≤ 100 ∧ tabB g P ∧ ∀ g', Sub g g' → Q (.bl (stG goal rs fs)) g'
theorem any_mem {goal : T} {out : List T} (hg : Fc goal) (ho : ∀ t ∈ out, Fc t) : (out.any fun t => eqb t goal) = decide (goal ∈ out) := by
  rw [Bool.eq_iff_iff, List.any_eq_true, decide_eq_true_eq]
  constructor
  · rintro ⟨t, ht, e⟩
    rw [(ho t ht).eqb hg, decide_eq_true_eq] at e
    exact e ▸ ht
  · intro h
    exact ⟨goal, h, by rw [hg.eqb hg]; simp⟩
theorem Fc.res {t : T} (h : Fc t) (g : G) : TL.res g t = t := by obtain ⟨ts, rfl⟩ := h.tup; rfl
theorem p_goal_stands (P : Addr) (ds : List T) (g : G) (Q : K1) (h : sp_stands P ds g Q noX) : t_goal_stands (sp_follows P) { nx := fun _ g' => Q .non g', rt := Q } (TL.startT N_goal_stands ds) g := by
  obtain ⟨goal, rs, fs, rfl, hR, hg, hne, hf, hl, tb, q⟩ := h
  unfold t_goal_stands
  simp only [qFrz_k, frzK_lst, frzK_dct, frzK_tup, qSeq, qIfS, qOr, qNot, qAnd, qTB, qCB, qCons, qNil, qTup, qLstF, qVar, qC, sl, bIsi, c2, c1, m0, m1, m2, res_tup, res_lst', res_int, res_str, res_bl, res_non, res_dct, res_ty, tyN, isStr, TL.isInt, TL.isTup, TL.isBool, TL.isLst, isN, isB, qIf, qChain, cLe, cLt, cGt, cGe, cEq, cNe, cEqV, cIn, cNotIn, cIsN, cNotN, n2, bLen, lenV, bInt, bTup, qNext, qRet, qRetN, qDrop, qAndV, qOrV, qNotV, qOp, aIx, ixV, idx, aSub, aMul, aMod, aFdiv, uNeg, riAdd, riSub, qCall, qAsg, gtName, gtTup, gtCons, gtNil, iLst, iTp, qFor, TL.startT, List.replicate, List.map_cons, List.map_nil, List.length_cons, List.length_nil, List.cons_append, List.nil_append, List.append_nil, List.set_cons_succ, List.set_cons_zero, List.getElem?_cons_zero, List.getElem?_cons_succ, List.getD_cons_zero, List.getD_cons_succ, List.headD_cons, Option.isSome_some, Bool.not_true, Bool.not_false, Bool.false_eq_true, if_true, if_false, true_and, and_true, decide_eq_true_eq, decide_true, decide_false, Nat.zero_add, reduceIte, reduceCtorEq]
  refine ⟨goal, rs, fs, rfl, hR, hg, hne, hf, hl, tb, fun g' out hs ho hl' hx => ?_⟩
  simp only [qFrz_k, frzK_lst, frzK_dct, frzK_tup, qSeq, qIfS, qOr, qNot, qAnd, qTB, qCB, qCons, qNil, qTup, qLstF, qVar, qC, sl, bIsi, c2, c1, m0, m1, m2, res_tup, res_lst', res_int, res_str, res_bl, res_non, res_dct, res_ty, tyN, isStr, TL.isInt, TL.isTup, TL.isBool, TL.isLst, isN, isB, qIf, qChain, cLe, cLt, cGt, cGe, cEq, cNe, cEqV, cIn, cNotIn, cIsN, cNotN, n2, bLen, lenV, bInt, bTup, qNext, qRet, qRetN, qDrop, qAndV, qOrV, qNotV, qOp, aIx, ixV, idx, aSub, aMul, aMod, aFdiv, uNeg, riAdd, riSub, qCall, qAsg, gtName, gtTup, gtCons, gtNil, iLst, iTp, qFor, TL.startT, List.replicate, List.map_cons, List.map_nil, List.length_cons, List.length_nil, List.cons_append, List.nil_append, List.append_nil, List.set_cons_succ, List.set_cons_zero, List.getElem?_cons_zero, List.getElem?_cons_succ, List.getD_cons_zero, List.getD_cons_succ, List.headD_cons, Option.isSome_some, Bool.not_true, Bool.not_false, Bool.false_eq_true, if_true, if_false, true_and, and_true, decide_eq_true_eq, decide_true, decide_false, Nat.zero_add, reduceIte, reduceCtorEq, hg.res, cInV]
  refine ⟨hg.isD, fcs_isDs ho, ?_⟩
  rw [any_mem hg ho]
  have e : decide (goal ∈ out) = stG goal rs fs := by
    unfold stG
    rw [Bool.eq_iff_iff, decide_eq_true_eq, hx goal, Bool.or_eq_true, decide_eq_true_eq]
    simp
  rw [e]
  exact q g' hs
end K82
set_option Elab.async false
set_option linter.all false
set_option maxRecDepth 100000
set_option maxHeartbeats 4000000
namespace K82
open PySem PySem.Spec L2 PyProof.Rows TL
/-! ### rising lists of places, mend -/
def risN (many : Nat) : Nat → Nat → List (List Nat)
  | 0, _ => [[]]
  | s + 1, f => (List.range (many - f)).flatMap fun i => (risN many s (f + i + 1)).map fun r => (f + i) :: r
def lsN (l : List Nat) : T := .lst (l.map fun (n : Nat) => .int (n : Int))
theorem risN_len : ∀ m < 9, ∀ f < 10, ∀ s < 10, (risN m s f).length ≤ 256 := by decide +kernel
def sp_rising (d : Nat) : TSp := fun ds g Q _ => ∃ f m s : Nat, ds = [.int (f : Int), .int (m : Int), .int (s : Int)] ∧ f < 10 ∧ m < 9 ∧ s < d ∧ s < 10 ∧ Q (.lst ((risN m s f).map lsN)) g
theorem lsN_le : ∀ m < 9, ∀ f < 10, ∀ s < 10, ∀ l ∈ risN m s f, l.length ≤ 9 := by decide +kernel
theorem p_rising (n : Nat) (ds : List T) (g : G) (Q : K1) (h : sp_rising (n + 1) ds g Q noX) : t_rising (sp_rising n) { nx := fun _ g' => Q .non g', rt := Q } (TL.startT N_rising ds) g := by
  obtain ⟨f, m, s, rfl, hf, hm, hs, hs10, q⟩ := h
  unfold t_rising
  cases s with
  | zero =>
    simp only [qFrz_k, frzK_lst, frzK_dct, frzK_tup, qSeq, qIfS, qOr, qNot, qAnd, qTB, qCB, qCons, qNil, qTup, qLstF, qVar, qC, sl, bIsi, c2, c1, m0, m1, m2, res_tup, res_lst', res_int, res_str, res_bl, res_non, res_dct, res_ty, tyN, isStr, TL.isInt, TL.isTup, TL.isBool, TL.isLst, isN, isB, qIf, qChain, cLe, cLt, cGt, cGe, cEq, cNe, cEqV, cIn, cNotIn, cIsN, cNotN, n2, bLen, lenV, bInt, bTup, qNext, qRet, qRetN, qDrop, qAndV, qOrV, qNotV, qOp, aIx, ixV, idx, aSub, aMul, aMod, aFdiv, uNeg, riAdd, riSub, qCall, qAsg, gtName, gtTup, gtCons, gtNil, iLst, iTp, qFor, TL.startT, List.replicate, List.map_cons, List.map_nil, List.length_cons, List.length_nil, List.cons_append, List.nil_append, List.append_nil, List.set_cons_succ, List.set_cons_zero, List.getElem?_cons_zero, List.getElem?_cons_succ, List.getD_cons_zero, List.getD_cons_succ, List.headD_cons, Option.isSome_some, Bool.not_true, Bool.not_false, Bool.false_eq_true, if_true, if_false, true_and, and_true, decide_eq_true_eq, decide_true, decide_false, Nat.zero_add, reduceIte, reduceCtorEq]
    rw [if_pos (by rfl)]
    refine ⟨Nat.zero_le _, by rw [sizeLine_eq]; omega, q⟩
  | succ s =>
    simp only [qFrz_k, frzK_lst, frzK_dct, frzK_tup, qSeq, qIfS, qOr, qNot, qAnd, qTB, qCB, qCons, qNil, qTup, qLstF, qVar, qC, sl, bIsi, c2, c1, m0, m1, m2, res_tup, res_lst', res_int, res_str, res_bl, res_non, res_dct, res_ty, tyN, isStr, TL.isInt, TL.isTup, TL.isBool, TL.isLst, isN, isB, qIf, qChain, cLe, cLt, cGt, cGe, cEq, cNe, cEqV, cIn, cNotIn, cIsN, cNotN, n2, bLen, lenV, bInt, bTup, qNext, qRet, qRetN, qDrop, qAndV, qOrV, qNotV, qOp, aIx, ixV, idx, aSub, aMul, aMod, aFdiv, uNeg, riAdd, riSub, qCall, qAsg, gtName, gtTup, gtCons, gtNil, iLst, iTp, qFor, TL.startT, List.replicate, List.map_cons, List.map_nil, List.length_cons, List.length_nil, List.cons_append, List.nil_append, List.append_nil, List.set_cons_succ, List.set_cons_zero, List.getElem?_cons_zero, List.getElem?_cons_succ, List.getD_cons_zero, List.getD_cons_succ, List.headD_cons, Option.isSome_some, Bool.not_true, Bool.not_false, Bool.false_eq_true, if_true, if_false, true_and, and_true, decide_eq_true_eq, decide_true, decide_false, Nat.zero_add, reduceIte, reduceCtorEq]
    rw [if_neg (by omega)]
    simp only [qLst, qFrz_k, frzK_lst, frzK_dct, frzK_tup, qSeq, qIfS, qOr, qNot, qAnd, qTB, qCB, qCons, qNil, qTup, qLstF, qVar, qC, sl, bIsi, c2, c1, m0, m1, m2, res_tup, res_lst', res_int, res_str, res_bl, res_non, res_dct, res_ty, tyN, isStr, TL.isInt, TL.isTup, TL.isBool, TL.isLst, isN, isB, qIf, qChain, cLe, cLt, cGt, cGe, cEq, cNe, cEqV, cIn, cNotIn, cIsN, cNotN, n2, bLen, lenV, bInt, bTup, qNext, qRet, qRetN, qDrop, qAndV, qOrV, qNotV, qOp, aIx, ixV, idx, aSub, aMul, aMod, aFdiv, uNeg, riAdd, riSub, qCall, qAsg, gtName, gtTup, gtCons, gtNil, iLst, iTp, qFor, TL.startT, List.replicate, List.map_cons, List.map_nil, List.length_cons, List.length_nil, List.cons_append, List.nil_append, List.append_nil, List.set_cons_succ, List.set_cons_zero, List.getElem?_cons_zero, List.getElem?_cons_succ, List.getD_cons_zero, List.getD_cons_succ, List.headD_cons, Option.isSome_some, Bool.not_true, Bool.not_false, Bool.false_eq_true, if_true, if_false, true_and, and_true, decide_eq_true_eq, decide_true, decide_false, Nat.zero_add, reduceIte, reduceCtorEq]
    refine ⟨Nat.zero_le _, fun p hp => ?_⟩
    simp only [qFrz_k, frzK_lst, frzK_dct, frzK_tup, qSeq, qIfS, qOr, qNot, qAnd, qTB, qCB, qCons, qNil, qTup, qLstF, qVar, qC, sl, bIsi, c2, c1, m0, m1, m2, res_tup, res_lst', res_int, res_str, res_bl, res_non, res_dct, res_ty, tyN, isStr, TL.isInt, TL.isTup, TL.isBool, TL.isLst, isN, isB, qIf, qChain, cLe, cLt, cGt, cGe, cEq, cNe, cEqV, cIn, cNotIn, cIsN, cNotN, n2, bLen, lenV, bInt, bTup, qNext, qRet, qRetN, qDrop, qAndV, qOrV, qNotV, qOp, aIx, ixV, idx, aSub, aMul, aMod, aFdiv, uNeg, riAdd, riSub, qCall, qAsg, gtName, gtTup, gtCons, gtNil, iLst, iTp, qFor, TL.startT, List.replicate, List.map_cons, List.map_nil, List.length_cons, List.length_nil, List.cons_append, List.nil_append, List.append_nil, List.set_cons_succ, List.set_cons_zero, List.getElem?_cons_zero, List.getElem?_cons_succ, List.getD_cons_zero, List.getD_cons_succ, List.headD_cons, Option.isSome_some, Bool.not_true, Bool.not_false, Bool.false_eq_true, if_true, if_false, true_and, and_true, decide_eq_true_eq, decide_true, decide_false, Nat.zero_add, reduceIte, reduceCtorEq, TL.iRng2]
    refine ⟨by omega, ?_⟩
    have hbig : ∀ l : List (List Nat), (∃ r, l ++ r = risN m (s + 1) f) → l.length ≤ 256 := fun l ⟨r, e⟩ => by
      have := risN_len m hm f hf (s + 1) hs10
      rw [← e, List.length_append] at this
      omega
    have hr : TL.rangeT (f : Int) ((m : Int) - (f : Int)).toNat = (List.range (m - f)).map fun (i : Nat) => T.int ((f + i : Nat) : Int) := by
      unfold TL.rangeT
      have : ((m : Int) - (f : Int)).toNat = m - f := by omega
      rw [this]
      refine List.map_congr_left fun i _ => ?_
      rw [Int.natCast_add]
    rw [hr]
    refine wFor_I (fun us δ g' => ∃ is done x4 x5, us = is.map (fun (i : Nat) => T.int ((f + i : Nat) : Int)) ∧ (∀ i ∈ is, i < m - f) ∧ g' = gput g p (.lst (done.map lsN)) ∧ δ = [some (.int (f : Int)), some (.int (m : Int)), some (.int ((s + 1 : Nat) : Int)), some (.ref p), x4, x5] ∧ done ++ is.flatMap (fun i => (risN m s (f + i + 1)).map fun r => (f + i) :: r) = risN m (s + 1) f) (fun _ _ _ _ => trivial) ?_ ?_ _ _ _
      ⟨List.range (m - f), [], _, _, rfl, fun i hi => List.mem_range.mp hi, rfl, rfl, rfl⟩
    · rintro t us δ g' ⟨is, done, x4, x5, hus, his, rfl, rfl, hd⟩ K hK
      cases is with
      | nil => cases hus
      | cons i is =>
        simp only [List.map_cons, List.cons.injEq] at hus
        obtain ⟨rfl, rfl⟩ := hus
        have hi := his i (List.mem_cons_self ..)
        simp only [qFrz_k, frzK_lst, frzK_dct, frzK_tup, qSeq, qIfS, qOr, qNot, qAnd, qTB, qCB, qCons, qNil, qTup, qLstF, qVar, qC, sl, bIsi, c2, c1, m0, m1, m2, res_tup, res_lst', res_int, res_str, res_bl, res_non, res_dct, res_ty, tyN, isStr, TL.isInt, TL.isTup, TL.isBool, TL.isLst, isN, isB, qIf, qChain, cLe, cLt, cGt, cGe, cEq, cNe, cEqV, cIn, cNotIn, cIsN, cNotN, n2, bLen, lenV, bInt, bTup, qNext, qRet, qRetN, qDrop, qAndV, qOrV, qNotV, qOp, aIx, ixV, idx, aSub, aMul, aMod, aFdiv, uNeg, riAdd, riSub, qCall, qAsg, gtName, gtTup, gtCons, gtNil, iLst, iTp, qFor, TL.startT, List.replicate, List.map_cons, List.map_nil, List.length_cons, List.length_nil, List.cons_append, List.nil_append, List.append_nil, List.set_cons_succ, List.set_cons_zero, List.getElem?_cons_zero, List.getElem?_cons_succ, List.getD_cons_zero, List.getD_cons_succ, List.headD_cons, Option.isSome_some, Bool.not_true, Bool.not_false, Bool.false_eq_true, if_true, if_false, true_and, and_true, decide_eq_true_eq, decide_true, decide_false, Nat.zero_add, reduceIte, reduceCtorEq, aAdd]
        refine ⟨f + i + 1, m, s, ?_, by omega, hm, by omega, by omega, ?_⟩
        · have e1 : ((f + i : Nat) : Int) + 1 = ((f + i + 1 : Nat) : Int) := by omega
          have e2 : ((s + 1 : Nat) : Int) - 1 = ((s : Nat) : Int) := by omega
          rw [e1, e2]
        refine wFor_I (fun us δ g' => ∃ ls done2 x5, us = ls.map lsN ∧ (∀ l ∈ ls, l ∈ risN m s (f + i + 1)) ∧ g' = gput g p (.lst (done2.map lsN)) ∧ δ = [some (.int (f : Int)), some (.int (m : Int)), some (.int ((s + 1 : Nat) : Int)), some (.ref p), some (.int ((f + i : Nat) : Int)), x5] ∧ done2 ++ ls.map (fun r => (f + i) :: r) ++ is.flatMap (fun i => (risN m s (f + i + 1)).map fun r => (f + i) :: r) = risN m (s + 1) f) (fun _ _ _ _ => trivial) ?_ ?_ _ _ _
          ⟨_, done, _, rfl, fun _ h => h, rfl, rfl, by rw [← hd, List.flatMap_cons, List.append_assoc]⟩
        · rintro t us δ g' ⟨ls, done2, x5, hus, hls, rfl, rfl, hd2⟩ K2 hK2
          cases ls with
          | nil => cases hus
          | cons l ls =>
            simp only [List.map_cons, List.cons.injEq] at hus
            obtain ⟨rfl, rfl⟩ := hus
            have hl9 := lsN_le m hm (f + i + 1) (by omega) s (by omega) l (hls l (List.mem_cons_self ..))
            have hb := hbig done2 ⟨_, by rw [← hd2, List.append_assoc]⟩
            simp only [qFrz_k, frzK_lst, frzK_dct, frzK_tup, qSeq, qIfS, qOr, qNot, qAnd, qTB, qCB, qCons, qNil, qTup, qLstF, qVar, qC, sl, bIsi, c2, c1, m0, m1, m2, res_tup, res_lst', res_int, res_str, res_bl, res_non, res_dct, res_ty, tyN, isStr, TL.isInt, TL.isTup, TL.isBool, TL.isLst, isN, isB, qIf, qChain, cLe, cLt, cGt, cGe, cEq, cNe, cEqV, cIn, cNotIn, cIsN, cNotN, n2, bLen, lenV, bInt, bTup, qNext, qRet, qRetN, qDrop, qAndV, qOrV, qNotV, qOp, aIx, ixV, idx, aSub, aMul, aMod, aFdiv, uNeg, riAdd, riSub, qCall, qAsg, gtName, gtTup, gtCons, gtNil, iLst, iTp, qFor, TL.startT, List.replicate, List.map_cons, List.map_nil, List.length_cons, List.length_nil, List.cons_append, List.nil_append, List.append_nil, List.set_cons_succ, List.set_cons_zero, List.getElem?_cons_zero, List.getElem?_cons_succ, List.getD_cons_zero, List.getD_cons_succ, List.headD_cons, Option.isSome_some, Bool.not_true, Bool.not_false, Bool.false_eq_true, if_true, if_false, true_and, and_true, decide_eq_true_eq, decide_true, decide_false, Nat.zero_add, reduceIte, reduceCtorEq, qBM, res_refL gput_same, isTp]
            refine ⟨by decide, by rw [sizeLine_eq]; omega, ?_⟩
            simp only [aAdd, lsN, res_lst']
            refine ⟨by rw [sizeLine_eq]; simp; omega, fun p2 hp2 => ?_⟩
            rw [frzK_putL hp2]
            simp only [qFrz_k, frzK_lst, frzK_dct, frzK_tup, qSeq, qIfS, qOr, qNot, qAnd, qTB, qCB, qCons, qNil, qTup, qLstF, qVar, qC, sl, bIsi, c2, c1, m0, m1, m2, res_tup, res_lst', res_int, res_str, res_bl, res_non, res_dct, res_ty, tyN, isStr, TL.isInt, TL.isTup, TL.isBool, TL.isLst, isN, isB, qIf, qChain, cLe, cLt, cGt, cGe, cEq, cNe, cEqV, cIn, cNotIn, cIsN, cNotN, n2, bLen, lenV, bInt, bTup, qNext, qRet, qRetN, qDrop, qAndV, qOrV, qNotV, qOp, aIx, ixV, idx, aSub, aMul, aMod, aFdiv, uNeg, riAdd, riSub, qCall, qAsg, gtName, gtTup, gtCons, gtNil, iLst, iTp, qFor, TL.startT, List.replicate, List.map_cons, List.map_nil, List.length_cons, List.length_nil, List.cons_append, List.nil_append, List.append_nil, List.set_cons_succ, List.set_cons_zero, List.getElem?_cons_zero, List.getElem?_cons_succ, List.getD_cons_zero, List.getD_cons_succ, List.headD_cons, Option.isSome_some, Bool.not_true, Bool.not_false, Bool.false_eq_true, if_true, if_false, true_and, and_true, decide_eq_true_eq, decide_true, decide_false, Nat.zero_add, reduceIte, reduceCtorEq, mAppend, gl, gput_same]
            refine ⟨by rw [sizeLine_eq, List.length_map]; omega, ?_⟩
            rw [gput_put]
            refine hK2 _ _ ⟨ls, done2 ++ [(f + i) :: l], _, rfl, fun u hu => hls u (List.mem_cons_of_mem _ hu), ?_, rfl, ?_⟩
            · simp [lsN]
            · rw [← hd2]
              simp
        · rintro δ g' ⟨ls, done2, x5, hus, hls, rfl, rfl, hd2⟩
          cases ls with
          | cons l ls => cases hus
          | nil =>
            refine hK _ _ ⟨is, done2, _, _, rfl, fun j hj => his j (List.mem_cons_of_mem _ hj), rfl, rfl, ?_⟩
            rw [← hd2]
            simp
    · rintro δ g' ⟨is, done, x4, x5, hus, his, rfl, rfl, hd⟩
      cases is with
      | cons i is => cases hus
      | nil =>
        simp only [qFrz_k, frzK_lst, frzK_dct, frzK_tup, qSeq, qIfS, qOr, qNot, qAnd, qTB, qCB, qCons, qNil, qTup, qLstF, qVar, qC, sl, bIsi, c2, c1, m0, m1, m2, res_tup, res_lst', res_int, res_str, res_bl, res_non, res_dct, res_ty, tyN, isStr, TL.isInt, TL.isTup, TL.isBool, TL.isLst, isN, isB, qIf, qChain, cLe, cLt, cGt, cGe, cEq, cNe, cEqV, cIn, cNotIn, cIsN, cNotN, n2, bLen, lenV, bInt, bTup, qNext, qRet, qRetN, qDrop, qAndV, qOrV, qNotV, qOp, aIx, ixV, idx, aSub, aMul, aMod, aFdiv, uNeg, riAdd, riSub, qCall, qAsg, gtName, gtTup, gtCons, gtNil, iLst, iTp, qFor, TL.startT, List.replicate, List.map_cons, List.map_nil, List.length_cons, List.length_nil, List.cons_append, List.nil_append, List.append_nil, List.set_cons_succ, List.set_cons_zero, List.getElem?_cons_zero, List.getElem?_cons_succ, List.getD_cons_zero, List.getD_cons_succ, List.headD_cons, Option.isSome_some, Bool.not_true, Bool.not_false, Bool.false_eq_true, if_true, if_false, true_and, and_true, decide_eq_true_eq, decide_true, decide_false, Nat.zero_add, reduceIte, reduceCtorEq]
        rw [frzK_putL hp]
        simp only [List.flatMap_nil, List.append_nil] at hd
        rw [hd]
        exact q
end K82
set_option Elab.async false
set_option linter.all false
set_option maxRecDepth 100000
set_option maxHeartbeats 4000000
namespace K82
open PySem PySem.Spec L2 PyProof.Rows TL
def planN (n : Nat) : List (List Nat) := (List.range (n + 1)).flatMap fun s => risN n s 0
def pickT (ms : List T) (p : List Nat) : List T := p.filterMap fun n => ms[n]?
def chgT (fs cs : List T) : List T := lessT fs cs ++ lessT cs fs
theorem risN_lt : ∀ m < 9, ∀ s < 10, ∀ l ∈ risN m s 0, ∀ x ∈ l, x < m := by decide +kernel
theorem range0 (k : Nat) : TL.rangeT 0 k = (List.range k).map fun (i : Nat) => T.int (i : Int) := by
  unfold TL.rangeT
  refine List.map_congr_left fun i _ => ?_
  rw [Int.zero_add]
theorem mem_less {ts us : List T} {x : T} (h : x ∈ lessT ts us) : x ∈ ts := by
  obtain ⟨t, ht, e⟩ := List.mem_filterMap.mp h
  split at e
  · cases e
  · cases e; exact ht
theorem mem_pick {ms : List T} {p : List Nat} {x : T} (h : x ∈ pickT ms p) : x ∈ ms := by
  obtain ⟨n, _, e⟩ := List.mem_filterMap.mp h
  exact List.mem_of_getElem? e
def hitM (goal : T) (rs fs ms : List T) (wish : Bool) (p : List Nat) : Bool := decide (stG goal rs (chgT fs (pickT ms p)) = wish)
def sp_mend (P : Addr) : TSp := fun ds g Q _ => ∃ goal rs fs ms wish, ds = [.lst rs, .lst fs, goal, .lst ms, .bl wish] ∧ RsOk goal rs ∧ Fc goal ∧ rs ≠ [] ∧ (∀ t ∈ fs, Fc t) ∧ fs.length ≤ 20 ∧ (∀ t ∈ ms, Fc t) ∧ ms.length ≤ 8 ∧ tabB g P ∧
  ((planN ms.length).find? (hitM goal rs fs ms wish) = none → ∀ g', Sub g g' → Q .non g') ∧
  (∀ p, (planN ms.length).find? (hitM goal rs fs ms wish) = some p → ∀ g' q, Sub g g' → g q = none → g' q = some (.lst (pickT ms p)) → Q (.ref q) g')
theorem fc_both {fs : List T} (h : ∀ t ∈ fs, Fc t) : ∀ t ∈ fs, Th 6 t ∧ isD t = true := fun t ht => ⟨(h t ht).th, (h t ht).isD⟩
theorem p_mend (P : Addr) (ds : List T) (g : G) (Q : K1) (h : sp_mend P ds g Q noX) : t_mend sp_layers (sp_rising 10) (sp_stands P) sp_changed { nx := fun _ g' => Q .non g', rt := Q } (TL.startT N_mend ds) g := by
  obtain ⟨goal, rs, fs, ms, wish, rfl, hR, hg, hne, hf, hl, hm, hl8, tb, q0, q1⟩ := h
  unfold t_mend
  simp only [qFrz_k, frzK_lst, frzK_dct, frzK_tup, qSeq, qIfS, qOr, qNot, qAnd, qTB, qCB, qCons, qNil, qTup, qLstF, qVar, qC, sl, bIsi, c2, c1, m0, m1, m2, res_tup, res_lst', res_int, res_str, res_bl, res_non, res_dct, res_ty, tyN, isStr, TL.isInt, TL.isTup, TL.isBool, TL.isLst, isN, isB, qIf, qChain, cLe, cLt, cGt, cGe, cEq, cNe, cEqV, cIn, cNotIn, cIsN, cNotN, n2, bLen, lenV, bInt, bTup, qNext, qRet, qRetN, qDrop, qAndV, qOrV, qNotV, qOp, aIx, ixV, idx, aSub, aMul, aMod, aFdiv, uNeg, riAdd, riSub, qCall, qAsg, gtName, gtTup, gtCons, gtNil, iLst, iTp, qFor, TL.startT, List.replicate, List.map_cons, List.map_nil, List.length_cons, List.length_nil, List.cons_append, List.nil_append, List.append_nil, List.set_cons_succ, List.set_cons_zero, List.getElem?_cons_zero, List.getElem?_cons_succ, List.getD_cons_zero, List.getD_cons_succ, List.headD_cons, Option.isSome_some, Bool.not_true, Bool.not_false, Bool.false_eq_true, if_true, if_false, true_and, and_true, decide_eq_true_eq, decide_true, decide_false, Nat.zero_add, reduceIte, reduceCtorEq]
  refine ⟨goal, rs, rfl, hR, hg, hne, fun g1 nums hs1 _ => ?_⟩
  simp only [qFrz_k, frzK_lst, frzK_dct, frzK_tup, qSeq, qIfS, qOr, qNot, qAnd, qTB, qCB, qCons, qNil, qTup, qLstF, qVar, qC, sl, bIsi, c2, c1, m0, m1, m2, res_tup, res_lst', res_int, res_str, res_bl, res_non, res_dct, res_ty, tyN, isStr, TL.isInt, TL.isTup, TL.isBool, TL.isLst, isN, isB, qIf, qChain, cLe, cLt, cGt, cGe, cEq, cNe, cEqV, cIn, cNotIn, cIsN, cNotN, n2, bLen, lenV, bInt, bTup, qNext, qRet, qRetN, qDrop, qAndV, qOrV, qNotV, qOp, aIx, ixV, idx, aSub, aMul, aMod, aFdiv, uNeg, riAdd, riSub, qCall, qAsg, gtName, gtTup, gtCons, gtNil, iLst, iTp, qFor, TL.startT, List.replicate, List.map_cons, List.map_nil, List.length_cons, List.length_nil, List.cons_append, List.nil_append, List.append_nil, List.set_cons_succ, List.set_cons_zero, List.getElem?_cons_zero, List.getElem?_cons_succ, List.getD_cons_zero, List.getD_cons_succ, List.headD_cons, Option.isSome_some, Bool.not_true, Bool.not_false, Bool.false_eq_true, if_true, if_false, true_and, and_true, decide_eq_true_eq, decide_true, decide_false, Nat.zero_add, reduceIte, reduceCtorEq, TL.iRng1, aAdd]
  refine ⟨by omega, by omega, ?_⟩
  have e0 : (((ms.length : Nat) : Int) + 1).toNat = ms.length + 1 := by omega
  rw [e0, range0]
  refine wFor_I (fun us δ g' => Sub g g' ∧ ∃ is x5 x6 x7 x8, us = is.map (fun (i : Nat) => T.int (i : Int)) ∧ (∀ i ∈ is, i < ms.length + 1) ∧ δ = [some (.lst rs), some (.lst fs), some goal, some (.lst ms), some (.bl wish), x5, x6, x7, x8, none] ∧ (is.flatMap fun s => risN ms.length s 0).find? (hitM goal rs fs ms wish) = (planN ms.length).find? (hitM goal rs fs ms wish)) (fun _ _ _ _ => trivial) ?_ ?_ _ _ _
    ⟨hs1, List.range (ms.length + 1), _, _, _, _, rfl, fun i hi => List.mem_range.mp hi, rfl, rfl⟩
  · rintro t us δ g' ⟨hs, is, x5, x6, x7, x8, hus, his, rfl, hF⟩ K hK
    cases is with
    | nil => cases hus
    | cons s is =>
      simp only [List.map_cons, List.cons.injEq] at hus
      obtain ⟨rfl, rfl⟩ := hus
      have hs9 := his s (List.mem_cons_self ..)
      simp only [qFrz_k, frzK_lst, frzK_dct, frzK_tup, qSeq, qIfS, qOr, qNot, qAnd, qTB, qCB, qCons, qNil, qTup, qLstF, qVar, qC, sl, bIsi, c2, c1, m0, m1, m2, res_tup, res_lst', res_int, res_str, res_bl, res_non, res_dct, res_ty, tyN, isStr, TL.isInt, TL.isTup, TL.isBool, TL.isLst, isN, isB, qIf, qChain, cLe, cLt, cGt, cGe, cEq, cNe, cEqV, cIn, cNotIn, cIsN, cNotN, n2, bLen, lenV, bInt, bTup, qNext, qRet, qRetN, qDrop, qAndV, qOrV, qNotV, qOp, aIx, ixV, idx, aSub, aMul, aMod, aFdiv, uNeg, riAdd, riSub, qCall, qAsg, gtName, gtTup, gtCons, gtNil, iLst, iTp, qFor, TL.startT, List.replicate, List.map_cons, List.map_nil, List.length_cons, List.length_nil, List.cons_append, List.nil_append, List.append_nil, List.set_cons_succ, List.set_cons_zero, List.getElem?_cons_zero, List.getElem?_cons_succ, List.getD_cons_zero, List.getD_cons_succ, List.headD_cons, Option.isSome_some, Bool.not_true, Bool.not_false, Bool.false_eq_true, if_true, if_false, true_and, and_true, decide_eq_true_eq, decide_true, decide_false, Nat.zero_add, reduceIte, reduceCtorEq]
      refine ⟨0, ms.length, s, rfl, by omega, by omega, by omega, by omega, ?_⟩
      refine wFor_I (fun us δ g' => Sub g g' ∧ ∃ ls x6 x7 x8, us = ls.map lsN ∧ (∀ l ∈ ls, l ∈ risN ms.length s 0) ∧ δ = [some (.lst rs), some (.lst fs), some goal, some (.lst ms), some (.bl wish), some (.int (s : Int)), x6, x7, x8, none] ∧ (ls ++ is.flatMap fun s => risN ms.length s 0).find? (hitM goal rs fs ms wish) = (planN ms.length).find? (hitM goal rs fs ms wish)) (fun _ _ _ _ => trivial) ?_ ?_ _ _ _
        ⟨hs, _, _, _, _, rfl, fun _ h => h, rfl, by rw [← hF, List.flatMap_cons]⟩
      · rintro t us δ g' ⟨hs, ls, x6, x7, x8, hus, hls, rfl, hF⟩ K2 hK2
        cases ls with
        | nil => cases hus
        | cons l ls =>
          simp only [List.map_cons, List.cons.injEq] at hus
          obtain ⟨rfl, rfl⟩ := hus
          have hl9 := lsN_le ms.length (by omega) 0 (by omega) s (by omega) l (hls l (List.mem_cons_self ..))
          have hlt := risN_lt ms.length (by omega) s (by omega) l (hls l (List.mem_cons_self ..))
          simp only [qFrz_k, frzK_lst, frzK_dct, frzK_tup, qSeq, qIfS, qOr, qNot, qAnd, qTB, qCB, qCons, qNil, qTup, qLstF, qVar, qC, sl, bIsi, c2, c1, m0, m1, m2, res_tup, res_lst', res_int, res_str, res_bl, res_non, res_dct, res_ty, tyN, isStr, TL.isInt, TL.isTup, TL.isBool, TL.isLst, isN, isB, qIf, qChain, cLe, cLt, cGt, cGe, cEq, cNe, cEqV, cIn, cNotIn, cIsN, cNotN, n2, bLen, lenV, bInt, bTup, qNext, qRet, qRetN, qDrop, qAndV, qOrV, qNotV, qOp, aIx, ixV, idx, aSub, aMul, aMod, aFdiv, uNeg, riAdd, riSub, qCall, qAsg, gtName, gtTup, gtCons, gtNil, iLst, iTp, qFor, TL.startT, List.replicate, List.map_cons, List.map_nil, List.length_cons, List.length_nil, List.cons_append, List.nil_append, List.append_nil, List.set_cons_succ, List.set_cons_zero, List.getElem?_cons_zero, List.getElem?_cons_succ, List.getD_cons_zero, List.getD_cons_succ, List.headD_cons, Option.isSome_some, Bool.not_true, Bool.not_false, Bool.false_eq_true, if_true, if_false, true_and, and_true, decide_eq_true_eq, decide_true, decide_false, Nat.zero_add, reduceIte, reduceCtorEq]
          refine lcN (F := fun t => match t with | .int i => ms[i.toNat]? | _ => none) (ts := l.map fun (n : Nat) => T.int (n : Int)) (kp := yes) (fun R h => h) (fun _ _ => trivial) (fun t ht g'' K hs' hk' => ?_) (by rw [sizeLine_eq, List.length_map]; omega) fun D hD => ?_
          · obtain ⟨n, hn, rfl⟩ := List.mem_map.mp ht
            have hn' := hlt n hn
            have e1 : ms[n]? = some ms[n] := List.getElem?_eq_getElem hn'
            simp only [qFrz_k, frzK_lst, frzK_dct, frzK_tup, qSeq, qIfS, qOr, qNot, qAnd, qTB, qCB, qCons, qNil, qTup, qLstF, qVar, qC, sl, bIsi, c2, c1, m0, m1, m2, res_tup, res_lst', res_int, res_str, res_bl, res_non, res_dct, res_ty, tyN, isStr, TL.isInt, TL.isTup, TL.isBool, TL.isLst, isN, isB, qIf, qChain, cLe, cLt, cGt, cGe, cEq, cNe, cEqV, cIn, cNotIn, cIsN, cNotN, n2, bLen, lenV, bInt, bTup, qNext, qRet, qRetN, qDrop, qAndV, qOrV, qNotV, qOp, aIx, ixV, idx, aSub, aMul, aMod, aFdiv, uNeg, riAdd, riSub, qCall, qAsg, gtName, gtTup, gtCons, gtNil, iLst, iTp, qFor, TL.startT, List.replicate, List.map_cons, List.map_nil, List.length_cons, List.length_nil, List.cons_append, List.nil_append, List.append_nil, List.set_cons_succ, List.set_cons_zero, List.getElem?_cons_zero, List.getElem?_cons_succ, List.getD_cons_zero, List.getD_cons_succ, List.headD_cons, Option.isSome_some, Bool.not_true, Bool.not_false, Bool.false_eq_true, if_true, if_false, true_and, and_true, decide_eq_true_eq, decide_true, decide_false, Nat.zero_add, reduceIte, reduceCtorEq, wipeT, qYes, ↓idx_nat, e1]
            simp only [Int.toNat_natCast, e1] at hk'
            exact hk'
          · have ep : (l.map fun (n : Nat) => T.int (n : Int)).filterMap (fun t => match t with | .int i => ms[i.toNat]? | _ => none) = pickT ms l := by
              rw [List.filterMap_map]
              rfl
            rw [ep]
            have hcs : ∀ t ∈ pickT ms l, Fc t := fun t ht => hm t (mem_pick ht)
            have hcl : (pickT ms l).length ≤ 9 := Nat.le_trans (List.length_filterMap_le _ _) hl9
            have hD0 : g D = none := pd_none hs hD
            refine ⟨.lst fs, .ref D, fs, pickT ms l, rfl, rfl, by simp only [lsT, res_refL gput_same], fc_both hf, fc_both hcs, fcs_isDs hf, fcs_isDs hcs, by rw [sizeLine_eq]; omega, ?_⟩
            have hch : ∀ t ∈ chgT fs (pickT ms l), Fc t := fun t ht => by
              rcases List.mem_append.mp ht with h | h
              · exact hf t (mem_less h)
              · exact hcs t (mem_less h)
            refine ⟨goal, rs, chgT fs (pickT ms l), rfl, hR, hg, hne, hch, ?_, tb.sub (hs.put1 hD0), fun g2 hs2 => ?_⟩
            · unfold chgT
              have h1 := less_len fs (pickT ms l)
              have h2 := less_len (pickT ms l) fs
              rw [List.length_append]
              omega
            · have hs3 : Sub g g2 := (hs.put1 hD0).trans hs2
              simp only [qFrz_k, frzK_lst, frzK_dct, frzK_tup, qSeq, qIfS, qOr, qNot, qAnd, qTB, qCB, qCons, qNil, qTup, qLstF, qVar, qC, sl, bIsi, c2, c1, m0, m1, m2, res_tup, res_lst', res_int, res_str, res_bl, res_non, res_dct, res_ty, tyN, isStr, TL.isInt, TL.isTup, TL.isBool, TL.isLst, isN, isB, qIf, qChain, cLe, cLt, cGt, cGe, cEq, cNe, cEqV, cIn, cNotIn, cIsN, cNotN, n2, bLen, lenV, bInt, bTup, qNext, qRet, qRetN, qDrop, qAndV, qOrV, qNotV, qOp, aIx, ixV, idx, aSub, aMul, aMod, aFdiv, uNeg, riAdd, riSub, qCall, qAsg, gtName, gtTup, gtCons, gtNil, iLst, iTp, qFor, TL.startT, List.replicate, List.map_cons, List.map_nil, List.length_cons, List.length_nil, List.cons_append, List.nil_append, List.append_nil, List.set_cons_succ, List.set_cons_zero, List.getElem?_cons_zero, List.getElem?_cons_succ, List.getD_cons_zero, List.getD_cons_succ, List.headD_cons, Option.isSome_some, Bool.not_true, Bool.not_false, Bool.false_eq_true, if_true, if_false, true_and, and_true, decide_eq_true_eq, decide_true, decide_false, Nat.zero_add, reduceIte, reduceCtorEq]
              by_cases hw : stG goal rs (chgT fs (pickT ms l)) = wish
              · rw [if_pos hw]
                refine q1 l ?_ g2 D hs3 hD0 (hs2 _ _ gput_same)
                rw [← hF, List.cons_append, List.find?_cons_of_pos (by simpa [hitM] using hw)]
              · rw [if_neg hw]
                refine hK2 _ _ ⟨hs3, ls, _, _, _, rfl, fun u hu => hls u (List.mem_cons_of_mem _ hu), rfl, ?_⟩
                rw [← hF, List.cons_append, List.find?_cons_of_neg (by simpa [hitM] using hw)]
      · rintro δ g' ⟨hs, ls, x6, x7, x8, hus, hls, rfl, hF⟩
        cases ls with
        | cons l ls => cases hus
        | nil => exact hK _ _ ⟨hs, is, _, _, _, _, rfl, fun j hj => his j (List.mem_cons_of_mem _ hj), rfl, hF⟩
  · rintro δ g' ⟨hs, is, x5, x6, x7, x8, hus, his, rfl, hF⟩
    cases is with
    | cons i is => cases hus
    | nil =>
      simp only [qFrz_k, frzK_lst, frzK_dct, frzK_tup, qSeq, qIfS, qOr, qNot, qAnd, qTB, qCB, qCons, qNil, qTup, qLstF, qVar, qC, sl, bIsi, c2, c1, m0, m1, m2, res_tup, res_lst', res_int, res_str, res_bl, res_non, res_dct, res_ty, tyN, isStr, TL.isInt, TL.isTup, TL.isBool, TL.isLst, isN, isB, qIf, qChain, cLe, cLt, cGt, cGe, cEq, cNe, cEqV, cIn, cNotIn, cIsN, cNotN, n2, bLen, lenV, bInt, bTup, qNext, qRet, qRetN, qDrop, qAndV, qOrV, qNotV, qOp, aIx, ixV, idx, aSub, aMul, aMod, aFdiv, uNeg, riAdd, riSub, qCall, qAsg, gtName, gtTup, gtCons, gtNil, iLst, iTp, qFor, TL.startT, List.replicate, List.map_cons, List.map_nil, List.length_cons, List.length_nil, List.cons_append, List.nil_append, List.append_nil, List.set_cons_succ, List.set_cons_zero, List.getElem?_cons_zero, List.getElem?_cons_succ, List.getD_cons_zero, List.getD_cons_succ, List.headD_cons, Option.isSome_some, Bool.not_true, Bool.not_false, Bool.false_eq_true, if_true, if_false, true_and, and_true, decide_eq_true_eq, decide_true, decide_false, Nat.zero_add, reduceIte, reduceCtorEq]
      exact q0 hF.symm g' hs
end K82
set_option Elab.async false
set_option linter.all false
set_option maxRecDepth 100000
set_option maxHeartbeats 4000000
namespace K82
open PySem PySem.Spec L2 PyProof.Rows TL
/-! ### the law's own: digits -/
def sp_cell : TSp := fun ds g Q _ => ∃ (ns : List Int) (k : Nat), ds = [.scr ns, .int (k : Int)] ∧ ∀ c, Q (.int c) g
theorem p_cell (ds : List T) (g : G) (Q : K1) (h : sp_cell ds g Q noX) : t__law_cell_at { nx := fun _ g' => Q .non g', rt := Q } (TL.startT N__law_cell_at ds) g := by
  obtain ⟨ns, k, rfl, q⟩ := h
  unfold t__law_cell_at
  have e : ∀ (k : T → Prop) (h : ∀ c, k (.int c)) (i : Nat), i < ns.length → ixV (.scr ns) (.int (i : Int)) k := fun k h i hi => by
    simp only [ixV, idx_nat, List.getElem?_eq_getElem hi]
    exact h _
  have er : ∀ g, res g (.scr ns) = .scr ns := fun _ => rfl
  simp only [qSeq, qIfS, qTB, qOp, cLt, n2, qVar, sl, qCB, bLen, c1, qCons, qNil, TL.startT, List.replicate, List.map_cons, List.map_nil, List.cons_append, List.nil_append, List.append_nil, er, lenV, isB, qRet, qNext, qC, aIx, res_int, List.length_cons, List.length_nil]
  by_cases hk : k < ns.length
  · rw [if_pos (by simp; omega)]
    exact e _ q k hk
  · rw [if_neg (by simp; omega)]
    exact q 0
/-- the digits that are left -/
def Lf (g : G) (a : Addr) : Prop := ∃ c s : Int, g a = some (.lst [.int c, .int s]) ∧ 0 ≤ c ∧ c < 10 ^ 30 ∧ 0 ≤ s ∧ s < 2147483647
theorem Lf.sub {g g' : G} {a : Addr} (h : Lf g a) (s : Sub g g') : Lf g' a := by
  obtain ⟨c, d, e, h⟩ := h
  exact ⟨c, d, s _ _ e, h⟩
theorem Lf.ne {g : G} {a p : Addr} (h : Lf g a) (n : g p = none) : p ≠ a := fun z => by
  obtain ⟨c, d, e, _⟩ := h
  rw [z, e] at n; cases n
theorem mulW {i j : Int} {a b : Nat} (ha : -(2 ^ a) < i ∧ i < 2 ^ a) (hb : -(2 ^ b) < j ∧ j < 2 ^ b) (h0 : 0 < a) (h1 : 0 < b) (h : a + b ≤ 1000000) : CMulW i j := by
  refine wide_mul (a := a) (b := b) ?_ ?_ h0 h1 h
  · have : ((i.natAbs : Nat) : Int) < ((2 ^ a : Nat) : Int) := by
      rw [Int.natCast_pow]; show ((i.natAbs : Nat) : Int) < (2 : Int) ^ a; omega
    exact Int.ofNat_lt.mp this
  · have : ((j.natAbs : Nat) : Int) < ((2 ^ b : Nat) : Int) := by
      rw [Int.natCast_pow]; show ((j.natAbs : Nat) : Int) < (2 : Int) ^ b; omega
    exact Int.ofNat_lt.mp this
def sp_left : TSp := fun ds g Q _ => ∃ (ns : List Int) (k : Nat), ds = [.scr ns, .int (k : Int)] ∧ k ≤ 1000 ∧ ∀ p g', Sub g g' → g p = none → Lf g' p → Q (.ref p) g'
theorem p_left (ds : List T) (g : G) (Q : K1) (h : sp_left ds g Q noX) : t__law_left sp_cell { nx := fun _ g' => Q .non g', rt := Q } (TL.startT N__law_left ds) g := by
  obtain ⟨ns, k, rfl, hk, q⟩ := h
  unfold t__law_left
  simp only [qFrz_k, frzK_lst, frzK_dct, frzK_tup, qSeq, qIfS, qOr, qNot, qAnd, qTB, qCB, qCons, qNil, qTup, qLstF, qVar, qC, sl, bIsi, c2, c1, m0, m1, m2, res_tup, res_lst', res_int, res_str, res_bl, res_non, res_dct, res_ty, tyN, isStr, TL.isInt, TL.isTup, TL.isBool, TL.isLst, isN, isB, qIf, qChain, cLe, cLt, cGt, cGe, cEq, cNe, cEqV, cIn, cNotIn, cIsN, cNotN, n2, bLen, lenV, bInt, bTup, qNext, qRet, qRetN, qDrop, qAndV, qOrV, qNotV, qOp, aIx, ixV, idx, aSub, aMul, aMod, aFdiv, uNeg, riAdd, riSub, qCall, qAsg, gtName, gtTup, gtCons, gtNil, iLst, iTp, qFor, TL.startT, List.replicate, List.map_cons, List.map_nil, List.length_cons, List.length_nil, List.cons_append, List.nil_append, List.append_nil, List.set_cons_succ, List.set_cons_zero, List.getElem?_cons_zero, List.getElem?_cons_succ, List.getD_cons_zero, List.getD_cons_succ, List.headD_cons, Option.isSome_some, Bool.not_true, Bool.not_false, Bool.false_eq_true, if_true, if_false, true_and, and_true, decide_eq_true_eq, decide_true, decide_false, Nat.zero_add, reduceIte, reduceCtorEq, aAdd, aPow]
  refine ⟨ns, k, rfl, fun c => ?_⟩
  have h1 : 0 ≤ c % 2147483629 := Int.emod_nonneg _ (by omega)
  have h2 : c % 2147483629 < 2147483629 := Int.emod_lt_of_pos _ (by omega)
  have h3 : (7919 : Int) * (k : Int) ≤ 7919000 := by omega
  have h4 : (0 : Int) ≤ 7919 * (k : Int) := by omega
  have h5 : (7919 : Int) * (k : Int) * (k : Int) ≤ 7919000 * 1000 := Int.mul_le_mul h3 (by omega) (by omega) (by omega)
  have h6 : (0 : Int) ≤ 7919 * (k : Int) * (k : Int) := Int.mul_nonneg h4 (by omega)
  simp only [qFrz_k, frzK_lst, frzK_dct, frzK_tup, qSeq, qIfS, qOr, qNot, qAnd, qTB, qCB, qCons, qNil, qTup, qLstF, qVar, qC, sl, bIsi, c2, c1, m0, m1, m2, res_tup, res_lst', res_int, res_str, res_bl, res_non, res_dct, res_ty, tyN, isStr, TL.isInt, TL.isTup, TL.isBool, TL.isLst, isN, isB, qIf, qChain, cLe, cLt, cGt, cGe, cEq, cNe, cEqV, cIn, cNotIn, cIsN, cNotN, n2, bLen, lenV, bInt, bTup, qNext, qRet, qRetN, qDrop, qAndV, qOrV, qNotV, qOp, aIx, ixV, idx, aSub, aMul, aMod, aFdiv, uNeg, riAdd, riSub, qCall, qAsg, gtName, gtTup, gtCons, gtNil, iLst, iTp, qFor, TL.startT, List.replicate, List.map_cons, List.map_nil, List.length_cons, List.length_nil, List.cons_append, List.nil_append, List.append_nil, List.set_cons_succ, List.set_cons_zero, List.getElem?_cons_zero, List.getElem?_cons_succ, List.getD_cons_zero, List.getD_cons_succ, List.headD_cons, Option.isSome_some, Bool.not_true, Bool.not_false, Bool.false_eq_true, if_true, if_false, true_and, and_true, decide_eq_true_eq, decide_true, decide_false, Nat.zero_add, reduceIte, reduceCtorEq, aAdd, aPow]
  refine ⟨by omega, mulW (a := 64) (b := 64) (by omega) (by omega) (by omega) (by omega) (by omega), mulW (a := 64) (b := 64) (by omega) (by omega) (by omega) (by omega) (by omega), ?_⟩
  refine ⟨mulW (a := 64) (b := 64) (by omega) (by omega) (by omega) (by omega) (by omega), by omega, ?_⟩
  refine ⟨ns, 0, rfl, fun c0 => ?_⟩
  have hs1 : 0 ≤ (c % 2147483629 + 7919 * (k : Int) * (k : Int) + 11) * 48271 % 2147483647 := Int.emod_nonneg _ (by omega)
  have hs2 : (c % 2147483629 + 7919 * (k : Int) * (k : Int) + 11) * 48271 % 2147483647 < 2147483647 := Int.emod_lt_of_pos _ (by omega)
  have fin : ∀ (c' s' : Int), 0 ≤ s' → s' < 2147483647 → qRet (qLst (qCons (qOp aMod (qVar 2) (qOp aPow (qC (.int 10)) (qC (.int 30)))) (qCons (qVar 3) qNil))) { nx := fun _ g' => Q .non g', rt := Q } [some (.scr ns), some (.int (k : Int)), some (.int c'), some (.int s')] g := by
    intro c' s' h1 h2
    simp only [qFrz_k, frzK_lst, frzK_dct, frzK_tup, qSeq, qIfS, qOr, qNot, qAnd, qTB, qCB, qCons, qNil, qTup, qLstF, qVar, qC, sl, bIsi, c2, c1, m0, m1, m2, res_tup, res_lst', res_int, res_str, res_bl, res_non, res_dct, res_ty, tyN, isStr, TL.isInt, TL.isTup, TL.isBool, TL.isLst, isN, isB, qIf, qChain, cLe, cLt, cGt, cGe, cEq, cNe, cEqV, cIn, cNotIn, cIsN, cNotN, n2, bLen, lenV, bInt, bTup, qNext, qRet, qRetN, qDrop, qAndV, qOrV, qNotV, qOp, aIx, ixV, idx, aSub, aMul, aMod, aFdiv, uNeg, riAdd, riSub, qCall, qAsg, gtName, gtTup, gtCons, gtNil, iLst, iTp, qFor, TL.startT, List.replicate, List.map_cons, List.map_nil, List.length_cons, List.length_nil, List.cons_append, List.nil_append, List.append_nil, List.set_cons_succ, List.set_cons_zero, List.getElem?_cons_zero, List.getElem?_cons_succ, List.getD_cons_zero, List.getD_cons_succ, List.headD_cons, Option.isSome_some, Bool.not_true, Bool.not_false, Bool.false_eq_true, if_true, if_false, true_and, and_true, decide_eq_true_eq, decide_true, decide_false, Nat.zero_add, reduceIte, reduceCtorEq, aPow, qLst]
    refine ⟨⟨by omega, by omega, by decide⟩, by decide, by rw [sizeLine_eq]; omega, fun p hp => ?_⟩
    refine q p _ (sub_put hp) hp ⟨_, _, gput_same, Int.emod_nonneg _ (by decide), Int.emod_lt_of_pos _ (by decide), h1, h2⟩
  simp only [qFrz_k, frzK_lst, frzK_dct, frzK_tup, qSeq, qIfS, qOr, qNot, qAnd, qTB, qCB, qCons, qNil, qTup, qLstF, qVar, qC, sl, bIsi, c2, c1, m0, m1, m2, res_tup, res_lst', res_int, res_str, res_bl, res_non, res_dct, res_ty, tyN, isStr, TL.isInt, TL.isTup, TL.isBool, TL.isLst, isN, isB, qIf, qChain, cLe, cLt, cGt, cGe, cEq, cNe, cEqV, cIn, cNotIn, cIsN, cNotN, n2, bLen, lenV, bInt, bTup, qNext, qRet, qRetN, qDrop, qAndV, qOrV, qNotV, qOp, aIx, ixV, idx, aSub, aMul, aMod, aFdiv, uNeg, riAdd, riSub, qCall, qAsg, gtName, gtTup, gtCons, gtNil, iLst, iTp, qFor, TL.startT, List.replicate, List.map_cons, List.map_nil, List.length_cons, List.length_nil, List.cons_append, List.nil_append, List.append_nil, List.set_cons_succ, List.set_cons_zero, List.getElem?_cons_zero, List.getElem?_cons_succ, List.getD_cons_zero, List.getD_cons_succ, List.headD_cons, Option.isSome_some, Bool.not_true, Bool.not_false, Bool.false_eq_true, if_true, if_false, true_and, and_true, decide_eq_true_eq, decide_true, decide_false, Nat.zero_add, reduceIte, reduceCtorEq, aMod]
  refine ⟨by omega, ?_⟩
  split
  · exact fin _ _ hs1 hs2
  · exact fin _ _ hs1 hs2
def sp_pick : TSp := fun ds g Q _ => ∃ (a : Addr) (m : Int), ds = [.ref a, .int m] ∧ Lf g a ∧ 0 < m ∧ m < 2 ^ 62 ∧ ∀ d g', Sub1 a g g' → Lf g' a → 0 ≤ d → d < m → Q (.int d) g'

theorem p_pick (ds : List T) (g : G) (Q : K1) (h : sp_pick ds g Q noX) : t__law_pick { nx := fun _ g' => Q .non g', rt := Q } (TL.startT N__law_pick ds) g := by
  obtain ⟨a, m, rfl, ⟨c, s, e, hc1, hc2, hs1, hs2⟩, hm, hm2, q⟩ := h
  unfold t__law_pick
  simp only [qFrz_k, frzK_lst, frzK_dct, frzK_tup, qSeq, qIfS, qOr, qNot, qAnd, qTB, qCB, qCons, qNil, qTup, qLstF, qVar, qC, sl, bIsi, c2, c1, m0, m1, m2, res_tup, res_lst', res_int, res_str, res_bl, res_non, res_dct, res_ty, tyN, isStr, TL.isInt, TL.isTup, TL.isBool, TL.isLst, isN, isB, qIf, qChain, cLe, cLt, cGt, cGe, cEq, cNe, cEqV, cIn, cNotIn, cIsN, cNotN, n2, bLen, lenV, bInt, bTup, qNext, qRet, qRetN, qDrop, qAndV, qOrV, qNotV, qOp, aIx, ixV, idx, aSub, aMul, aMod, aFdiv, uNeg, riAdd, riSub, qCall, qAsg, gtName, gtTup, gtCons, gtNil, iLst, iTp, qFor, TL.startT, List.replicate, List.map_cons, List.map_nil, List.length_cons, List.length_nil, List.cons_append, List.nil_append, List.append_nil, List.set_cons_succ, List.set_cons_zero, List.getElem?_cons_zero, List.getElem?_cons_succ, List.getD_cons_zero, List.getD_cons_succ, List.headD_cons, Option.isSome_some, Bool.not_true, Bool.not_false, Bool.false_eq_true, if_true, if_false, true_and, and_true, decide_eq_true_eq, decide_true, decide_false, Nat.zero_add, reduceIte, reduceCtorEq, res_refL e]
  have hm9 : m.natAbs.log2 < 9000 := by
    have : m.natAbs < 2 ^ 62 := by omega
    rcases Nat.eq_zero_or_pos m.natAbs with h0 | h0
    · rw [h0]; decide
    · exact Nat.lt_trans (Nat.log2_lt (by omega) |>.mpr this) (by omega)
  by_cases h : 0 < c
  · rw [if_pos h]
    simp only [qFrz_k, frzK_lst, frzK_dct, frzK_tup, qSeq, qIfS, qOr, qNot, qAnd, qTB, qCB, qCons, qNil, qTup, qLstF, qVar, qC, sl, bIsi, c2, c1, m0, m1, m2, res_tup, res_lst', res_int, res_str, res_bl, res_non, res_dct, res_ty, tyN, isStr, TL.isInt, TL.isTup, TL.isBool, TL.isLst, isN, isB, qIf, qChain, cLe, cLt, cGt, cGe, cEq, cNe, cEqV, cIn, cNotIn, cIsN, cNotN, n2, bLen, lenV, bInt, bTup, qNext, qRet, qRetN, qDrop, qAndV, qOrV, qNotV, qOp, aIx, ixV, idx, aSub, aMul, aMod, aFdiv, uNeg, riAdd, riSub, qCall, qAsg, gtName, gtTup, gtCons, gtNil, iLst, iTp, qFor, TL.startT, List.replicate, List.map_cons, List.map_nil, List.length_cons, List.length_nil, List.cons_append, List.nil_append, List.append_nil, List.set_cons_succ, List.set_cons_zero, List.getElem?_cons_zero, List.getElem?_cons_succ, List.getD_cons_zero, List.getD_cons_succ, List.headD_cons, Option.isSome_some, Bool.not_true, Bool.not_false, Bool.false_eq_true, if_true, if_false, true_and, and_true, decide_eq_true_eq, decide_true, decide_false, Nat.zero_add, reduceIte, reduceCtorEq, res_refL e, gtSub]
    refine ⟨hm, ⟨hm, hm9⟩, .inl ⟨a, _, 0, 0, rfl, e, rfl, rfl, ?_⟩⟩
    simp only [qFrz_k, frzK_lst, frzK_dct, frzK_tup, qSeq, qIfS, qOr, qNot, qAnd, qTB, qCB, qCons, qNil, qTup, qLstF, qVar, qC, sl, bIsi, c2, c1, m0, m1, m2, res_tup, res_lst', res_int, res_str, res_bl, res_non, res_dct, res_ty, tyN, isStr, TL.isInt, TL.isTup, TL.isBool, TL.isLst, isN, isB, qIf, qChain, cLe, cLt, cGt, cGe, cEq, cNe, cEqV, cIn, cNotIn, cIsN, cNotN, n2, bLen, lenV, bInt, bTup, qNext, qRet, qRetN, qDrop, qAndV, qOrV, qNotV, qOp, aIx, ixV, idx, aSub, aMul, aMod, aFdiv, uNeg, riAdd, riSub, qCall, qAsg, gtName, gtTup, gtCons, gtNil, iLst, iTp, qFor, TL.startT, List.replicate, List.map_cons, List.map_nil, List.length_cons, List.length_nil, List.cons_append, List.nil_append, List.append_nil, List.set_cons_succ, List.set_cons_zero, List.getElem?_cons_zero, List.getElem?_cons_succ, List.getD_cons_zero, List.getD_cons_succ, List.headD_cons, Option.isSome_some, Bool.not_true, Bool.not_false, Bool.false_eq_true, if_true, if_false, true_and, and_true, decide_eq_true_eq, decide_true, decide_false, Nat.zero_add, reduceIte, reduceCtorEq, List.set_cons_zero]
    refine q _ _ Sub1.put ⟨_, _, gput_same, Int.ediv_nonneg hc1 (by omega), ?_, hs1, hs2⟩ (Int.emod_nonneg _ (by omega)) (Int.emod_lt_of_pos _ hm)
    exact Int.lt_of_le_of_lt (Int.ediv_le_self _ hc1) hc2
  · rw [if_neg h]
    simp only [qFrz_k, frzK_lst, frzK_dct, frzK_tup, qSeq, qIfS, qOr, qNot, qAnd, qTB, qCB, qCons, qNil, qTup, qLstF, qVar, qC, sl, bIsi, c2, c1, m0, m1, m2, res_tup, res_lst', res_int, res_str, res_bl, res_non, res_dct, res_ty, tyN, isStr, TL.isInt, TL.isTup, TL.isBool, TL.isLst, isN, isB, qIf, qChain, cLe, cLt, cGt, cGe, cEq, cNe, cEqV, cIn, cNotIn, cIsN, cNotN, n2, bLen, lenV, bInt, bTup, qNext, qRet, qRetN, qDrop, qAndV, qOrV, qNotV, qOp, aIx, ixV, idx, aSub, aMul, aMod, aFdiv, uNeg, riAdd, riSub, qCall, qAsg, gtName, gtTup, gtCons, gtNil, iLst, iTp, qFor, TL.startT, List.replicate, List.map_cons, List.map_nil, List.length_cons, List.length_nil, List.cons_append, List.nil_append, List.append_nil, List.set_cons_succ, List.set_cons_zero, List.getElem?_cons_zero, List.getElem?_cons_succ, List.getD_cons_zero, List.getD_cons_succ, List.headD_cons, Option.isSome_some, Bool.not_true, Bool.not_false, Bool.false_eq_true, if_true, if_false, true_and, and_true, decide_eq_true_eq, decide_true, decide_false, Nat.zero_add, reduceIte, reduceCtorEq, res_refL e, gtSub, aAdd]
    refine ⟨mulW (a := 64) (b := 64) (by omega) (by omega) (by omega) (by omega) (by omega), by omega, .inl ⟨a, _, 1, 1, rfl, e, rfl, rfl, ?_⟩⟩
    have h1 : 0 ≤ (s * 48271 + 12345) % 2147483647 := Int.emod_nonneg _ (by omega)
    have h2 : (s * 48271 + 12345) % 2147483647 < 2147483647 := Int.emod_lt_of_pos _ (by omega)
    simp only [qFrz_k, frzK_lst, frzK_dct, frzK_tup, qSeq, qIfS, qOr, qNot, qAnd, qTB, qCB, qCons, qNil, qTup, qLstF, qVar, qC, sl, bIsi, c2, c1, m0, m1, m2, res_tup, res_lst', res_int, res_str, res_bl, res_non, res_dct, res_ty, tyN, isStr, TL.isInt, TL.isTup, TL.isBool, TL.isLst, isN, isB, qIf, qChain, cLe, cLt, cGt, cGe, cEq, cNe, cEqV, cIn, cNotIn, cIsN, cNotN, n2, bLen, lenV, bInt, bTup, qNext, qRet, qRetN, qDrop, qAndV, qOrV, qNotV, qOp, aIx, ixV, idx, aSub, aMul, aMod, aFdiv, uNeg, riAdd, riSub, qCall, qAsg, gtName, gtTup, gtCons, gtNil, iLst, iTp, qFor, TL.startT, List.replicate, List.map_cons, List.map_nil, List.length_cons, List.length_nil, List.cons_append, List.nil_append, List.append_nil, List.set_cons_succ, List.set_cons_zero, List.getElem?_cons_zero, List.getElem?_cons_succ, List.getD_cons_zero, List.getD_cons_succ, List.headD_cons, Option.isSome_some, Bool.not_true, Bool.not_false, Bool.false_eq_true, if_true, if_false, true_and, and_true, decide_eq_true_eq, decide_true, decide_false, Nat.zero_add, reduceIte, reduceCtorEq, res_refL gput_same, List.set_cons_succ, List.set_cons_zero]
    refine ⟨mulW (a := 64) (b := 64) (by omega) (by omega) (by omega) (by omega) (by omega), by omega, hm, ?_⟩
    exact q _ _ Sub1.put ⟨_, _, gput_same, hc1, hc2, h1, h2⟩ (Int.emod_nonneg _ (by omega)) (Int.emod_lt_of_pos _ hm)
end K82
set_option Elab.async false
set_option linter.all false
set_option maxRecDepth 100000
set_option maxHeartbeats 4000000
namespace K82
open PySem PySem.Spec L2 PyProof.Rows TL
theorem Lf.put {g : G} {a p : Addr} {o : GO} (h : Lf g a) (n : p ≠ a) : Lf (gput g p o) a := by
  obtain ⟨c, d, e, h⟩ := h
  exact ⟨c, d, by rw [gput_ne n.symm]; exact e, h⟩
theorem Lf.del {g : G} {a p : Addr} (h : Lf g a) (n : p ≠ a) : Lf (gdel g p) a := by
  obtain ⟨c, d, e, h⟩ := h
  exact ⟨c, d, by rw [gdel_ne n.symm]; exact e, h⟩
theorem idx_ex {α : Type} {ts : List α} {d : Int} (h0 : 0 ≤ d) (h : d < ts.length) : ∃ t, idx ts d = some t ∧ t ∈ ts := by
  obtain ⟨n, rfl⟩ := Int.eq_ofNat_of_zero_le h0
  have hn : n < ts.length := by omega
  exact ⟨ts[n], by rw [idx_nat, List.getElem?_eq_getElem hn], List.getElem_mem hn⟩
theorem ixL {ts : List T} {d : Int} {k : T → Prop} (h0 : 0 ≤ d) (h : d < ts.length) (hk : ∀ t ∈ ts, k t) : ixV (.lst ts) (.int d) k := by
  obtain ⟨t, e, ht⟩ := idx_ex h0 h
  simp only [ixV, e]
  exact hk t ht
/-- six unlike words -/
def sufs : List PySem.Str := ["", "1", ".x", "if"]
def mkW (n : Nat) (suf : PySem.Str) : PySem.Str := (⟨#[small.cps.toList.getD n 0]⟩ : PySem.Str) ++ suf
structure Words (ws : List T) : Prop where
  ex : ∃ xs : List PySem.Str, ws = xs.map T.str ∧ xs.length = 6 ∧ (∀ x ∈ xs, okW x) ∧ xs.Nodup
def okWb (x : PySem.Str) : Bool := decide (1 ≤ x.length) && decide (x.length ≤ 40) && (match x.cps.toList with
  | c :: _ => decide (c ∈ small.cps.toList)
  | [] => false) && x.cps.toList.all fun c => decide (c ∈ wsigns.cps.toList)
theorem okWb_ok {x : PySem.Str} (h : okWb x = true) : okW x := by
  unfold okWb at h
  simp only [Bool.and_eq_true, decide_eq_true_eq, List.all_eq_true] at h
  obtain ⟨⟨⟨h1, h2⟩, h3⟩, h4⟩ := h
  refine ⟨h1, h2, ?_, h4⟩
  match e : x.cps.toList, h3 with
  | c :: r, h3 => exact ⟨c, r, rfl, of_decide_eq_true h3⟩
  | [], h3 => cases h3
theorem mkW_ok : ∀ n < 26, ∀ s ∈ sufs, okWb (mkW n s) = true := by decide +kernel
theorem mkW_hd : ∀ n < 26, ∀ s ∈ sufs, (mkW n s).cps.toList.head? = some (small.cps.toList.getD n 0) := by decide +kernel
theorem small_inj : ∀ n < 26, ∀ m < 26, small.cps.toList.getD n 0 = small.cps.toList.getD m 0 → n = m := by decide +kernel
theorem step_inj : ∀ d < 26, ∀ st ∈ [1, 3, 5, 7, 9, 11], ∀ i < 6, ∀ j < 6, (d + st * i) % 26 = (d + st * j) % 26 → i = j := by decide +kernel
theorem letter (j : Int) (h0 : 0 ≤ j) (h : j < 26) (k : T → Prop) (hk : k (.str ⟨#[small.cps.toList.getD j.toNat 0]⟩)) : ixV (.str "abcdefghijklmnopqrstuvwxyz") (.int j) k := by
  obtain ⟨n, rfl⟩ := Int.eq_ofNat_of_zero_le h0
  have hn : n < 26 := by omega
  refine ⟨by rw [sizeLine_eq]; decide, ?_⟩
  have e : small.cps.toList[n]? = some (small.cps.toList.getD n 0) := by
    have hl : n < small.cps.toList.length := by show n < 26; exact hn
    rw [List.getElem?_eq_getElem hl, List.getD_eq_getElem?_getD, List.getElem?_eq_getElem hl]
    rfl
  show (match small.cps.toList[n]? with | some c => k (.str ⟨#[c]⟩) | none => False)
  rw [e]
  exact hk
def WL (d st : Nat) (vs : List T) : Prop := ∀ (i : Nat) (x : T), vs[i]? = some x → ∃ s ∈ sufs, x = .str (mkW ((d + st * i) % 26) s)
def sp_words : TSp := fun ds g Q _ => ∃ a, ds = [.ref a] ∧ Lf g a ∧ ∀ ws g', Sub1 a g g' → Lf g' a → Words ws → Q (.lst ws) g'
theorem p_words (ds : List T) (g : G) (Q : K1) (h : sp_words ds g Q noX) : t__law_words sp_pick { nx := fun _ g' => Q .non g', rt := Q } (TL.startT N__law_words ds) g := by
  obtain ⟨a, rfl, hL, q⟩ := h
  unfold t__law_words
  simp only [qFrz_k, frzK_lst, frzK_dct, frzK_tup, qSeq, qIfS, qOr, qNot, qAnd, qTB, qCB, qCons, qNil, qTup, qLstF, qVar, qC, sl, bIsi, c2, c1, m0, m1, m2, res_tup, res_lst', res_int, res_str, res_bl, res_non, res_dct, res_ty, tyN, isStr, TL.isInt, TL.isTup, TL.isBool, TL.isLst, isN, isB, qIf, qChain, cLe, cLt, cGt, cGe, cEq, cNe, cEqV, cIn, cNotIn, cIsN, cNotN, n2, bLen, lenV, bInt, bTup, qNext, qRet, qRetN, qDrop, qAndV, qOrV, qNotV, qOp, aIx, aSub, aMul, aMod, aFdiv, uNeg, riAdd, riSub, qCall, qAsg, gtName, gtTup, gtCons, gtNil, iLst, iTp, qFor, TL.startT, List.replicate, List.map_cons, List.map_nil, List.length_cons, List.length_nil, List.cons_append, List.nil_append, List.append_nil, List.set_cons_succ, List.set_cons_zero, List.getElem?_cons_zero, List.getElem?_cons_succ, List.getD_cons_zero, List.getD_cons_succ, List.headD_cons, Option.isSome_some, Bool.not_true, Bool.not_false, Bool.false_eq_true, if_true, if_false, true_and, and_true, decide_eq_true_eq, decide_true, decide_false, Nat.zero_add, reduceIte, reduceCtorEq]
  refine ⟨a, 26, rfl, hL, by omega, by omega, fun d g1 hs1 hL1 hd0 hd1 => ?_⟩
  simp only [qFrz_k, frzK_lst, frzK_dct, frzK_tup, qSeq, qIfS, qOr, qNot, qAnd, qTB, qCB, qCons, qNil, qTup, qLstF, qVar, qC, sl, bIsi, c2, c1, m0, m1, m2, res_tup, res_lst', res_int, res_str, res_bl, res_non, res_dct, res_ty, tyN, isStr, TL.isInt, TL.isTup, TL.isBool, TL.isLst, isN, isB, qIf, qChain, cLe, cLt, cGt, cGe, cEq, cNe, cEqV, cIn, cNotIn, cIsN, cNotN, n2, bLen, lenV, bInt, bTup, qNext, qRet, qRetN, qDrop, qAndV, qOrV, qNotV, qOp, aIx, aSub, aMul, aMod, aFdiv, uNeg, riAdd, riSub, qCall, qAsg, gtName, gtTup, gtCons, gtNil, iLst, iTp, qFor, TL.startT, List.replicate, List.map_cons, List.map_nil, List.length_cons, List.length_nil, List.cons_append, List.nil_append, List.append_nil, List.set_cons_succ, List.set_cons_zero, List.getElem?_cons_zero, List.getElem?_cons_succ, List.getD_cons_zero, List.getD_cons_succ, List.headD_cons, Option.isSome_some, Bool.not_true, Bool.not_false, Bool.false_eq_true, if_true, if_false, true_and, and_true, decide_eq_true_eq, decide_true, decide_false, Nat.zero_add, reduceIte, reduceCtorEq]
  refine ⟨by rw [sizeLine_eq]; omega, a, 6, rfl, hL1, by omega, by omega, fun e g2 hs2 hL2 he0 he1 => ?_⟩
  refine ixL he0 (by simpa using he1) fun st hst => ?_
  obtain ⟨dn, rfl⟩ := Int.eq_ofNat_of_zero_le hd0
  obtain ⟨sn, hsn, rfl⟩ : ∃ sn ∈ [1, 3, 5, 7, 9, 11], st = .int ((sn : Nat) : Int) := by
    simp only [List.mem_cons, List.not_mem_nil, or_false] at hst
    rcases hst with rfl | rfl | rfl | rfl | rfl | rfl
    · exact ⟨1, by simp, rfl⟩
    · exact ⟨3, by simp, rfl⟩
    · exact ⟨5, by simp, rfl⟩
    · exact ⟨7, by simp, rfl⟩
    · exact ⟨9, by simp, rfl⟩
    · exact ⟨11, by simp, rfl⟩
  have hdn : dn < 26 := by omega
  have hsn12 : sn < 12 := by
    simp only [List.mem_cons, List.not_mem_nil, or_false] at hsn
    omega
  simp only [qFrz_k, frzK_lst, frzK_dct, frzK_tup, qSeq, qIfS, qOr, qNot, qAnd, qTB, qCB, qCons, qNil, qTup, qLstF, qVar, qC, sl, bIsi, c2, c1, m0, m1, m2, res_tup, res_lst', res_int, res_str, res_bl, res_non, res_dct, res_ty, tyN, isStr, TL.isInt, TL.isTup, TL.isBool, TL.isLst, isN, isB, qIf, qChain, cLe, cLt, cGt, cGe, cEq, cNe, cEqV, cIn, cNotIn, cIsN, cNotN, n2, bLen, lenV, bInt, bTup, qNext, qRet, qRetN, qDrop, qAndV, qOrV, qNotV, qOp, aIx, ixV, idx, aSub, aMul, aMod, aFdiv, uNeg, riAdd, riSub, qCall, qAsg, gtName, gtTup, gtCons, gtNil, iLst, iTp, qFor, TL.startT, List.replicate, List.map_cons, List.map_nil, List.length_cons, List.length_nil, List.cons_append, List.nil_append, List.append_nil, List.set_cons_succ, List.set_cons_zero, List.getElem?_cons_zero, List.getElem?_cons_succ, List.getD_cons_zero, List.getD_cons_succ, List.headD_cons, Option.isSome_some, Bool.not_true, Bool.not_false, Bool.false_eq_true, if_true, if_false, true_and, and_true, decide_eq_true_eq, decide_true, decide_false, Nat.zero_add, reduceIte, reduceCtorEq, qLst]
  refine ⟨Nat.zero_le _, fun p hp => ?_⟩
  have hpa := hL2.ne hp
  have hp0 : g p = none := Sub1.none' (hs1.trans hs2) hp hpa
  simp only [qFrz_k, frzK_lst, frzK_dct, frzK_tup, qSeq, qIfS, qOr, qNot, qAnd, qTB, qCB, qCons, qNil, qTup, qLstF, qVar, qC, sl, bIsi, c2, c1, m0, m1, m2, res_tup, res_lst', res_int, res_str, res_bl, res_non, res_dct, res_ty, tyN, isStr, TL.isInt, TL.isTup, TL.isBool, TL.isLst, isN, isB, qIf, qChain, cLe, cLt, cGt, cGe, cEq, cNe, cEqV, cIn, cNotIn, cIsN, cNotN, n2, bLen, lenV, bInt, bTup, qNext, qRet, qRetN, qDrop, qAndV, qOrV, qNotV, qOp, aIx, ixV, idx, aSub, aMul, aMod, aFdiv, uNeg, riAdd, riSub, qCall, qAsg, gtName, gtTup, gtCons, gtNil, iLst, iTp, qFor, TL.startT, List.replicate, List.map_cons, List.map_nil, List.length_cons, List.length_nil, List.cons_append, List.nil_append, List.append_nil, List.set_cons_succ, List.set_cons_zero, List.getElem?_cons_zero, List.getElem?_cons_succ, List.getD_cons_zero, List.getD_cons_succ, List.headD_cons, Option.isSome_some, Bool.not_true, Bool.not_false, Bool.false_eq_true, if_true, if_false, true_and, and_true, decide_eq_true_eq, decide_true, decide_false, Nat.zero_add, reduceIte, reduceCtorEq, TL.iRng1]
  refine ⟨by omega, by omega, ?_⟩
  rw [show ((6 : Int).toNat) = 6 from rfl, range0]
  refine wFor_I (fun us δ g' => Sub1 a g g' ∧ Lf g' a ∧ ∃ vs x5, us = ((List.range 6).drop vs.length).map (fun (i : Nat) => T.int (i : Int)) ∧ vs.length ≤ 6 ∧ g' p = some (.lst vs) ∧ WL dn sn vs ∧ δ = [some (.ref a), some (.str "abcdefghijklmnopqrstuvwxyz"), some (.int (dn : Int)), some (.int (sn : Int)), some (.ref p), x5]) (fun _ _ _ _ => trivial) ?_ ?_ _ _ _
    ⟨(hs1.trans hs2).putp hp0, hL2.put hpa, [], _, rfl, by simp, gput_same, fun i x h => (by cases h), rfl⟩
  · rintro t us δ g' ⟨hs, hL', vs, x5, hus, hv6, hpv, hW, rfl⟩ K hK
    have hv : vs.length < 6 := by
      refine Nat.lt_of_not_le fun z => ?_
      rw [List.drop_of_length_le (by simpa using z)] at hus
      cases hus
    have hdr : (List.range 6).drop vs.length = vs.length :: (List.range 6).drop (vs.length + 1) := by
      rw [List.drop_eq_getElem_cons (by simpa using hv)]
      simp
    rw [hdr, List.map_cons] at hus
    injection hus with h1 h2
    subst h1 h2
    have h7 : sn * vs.length ≤ 12 * 6 := Nat.mul_le_mul (by omega) (by omega)
    have e1 : ((dn : Int) + (sn : Int) * ((vs.length : Nat) : Int)) % 26 = (((dn + sn * vs.length) % 26 : Nat) : Int) := by
      rw [Int.natCast_emod, Int.natCast_add, Int.natCast_mul]; rfl
    have hm : (dn + sn * vs.length) % 26 < 26 := Nat.mod_lt _ (by omega)
    simp only [qFrz_k, frzK_lst, frzK_dct, frzK_tup, qSeq, qIfS, qOr, qNot, qAnd, qTB, qCB, qCons, qNil, qTup, qLstF, qVar, qC, sl, bIsi, c2, c1, m0, m1, m2, res_tup, res_lst', res_int, res_str, res_bl, res_non, res_dct, res_ty, tyN, isStr, TL.isInt, TL.isTup, TL.isBool, TL.isLst, isN, isB, qIf, qChain, cLe, cLt, cGt, cGe, cEq, cNe, cEqV, cIn, cNotIn, cIsN, cNotN, n2, bLen, lenV, bInt, bTup, qNext, qRet, qRetN, qDrop, qAndV, qOrV, qNotV, qOp, aIx, aSub, aMul, aMod, aFdiv, uNeg, riAdd, riSub, qCall, qAsg, gtName, gtTup, gtCons, gtNil, iLst, iTp, qFor, TL.startT, List.replicate, List.map_cons, List.map_nil, List.length_cons, List.length_nil, List.cons_append, List.nil_append, List.append_nil, List.set_cons_succ, List.set_cons_zero, List.getElem?_cons_zero, List.getElem?_cons_succ, List.getD_cons_zero, List.getD_cons_succ, List.headD_cons, Option.isSome_some, Bool.not_true, Bool.not_false, Bool.false_eq_true, if_true, if_false, true_and, and_true, decide_eq_true_eq, decide_true, decide_false, Nat.zero_add, reduceIte, reduceCtorEq, qBM, res_refL hpv, isTp, aAdd]
    refine ⟨by decide, mulW (a := 64) (b := 64) (by omega) (by omega) (by omega) (by omega) (by omega), by omega, ?_⟩
    rw [e1]
    refine letter _ (by omega) (by omega) _ ?_
    rw [Int.toNat_natCast]
    refine ⟨by rw [sizeLine_eq]; omega, a, 4, rfl, hL', by omega, by omega, fun j g3 hs3 hL3 hj0 hj1 => ?_⟩
    refine ixL hj0 (by simpa using hj1) fun suf hsuf => ?_
    obtain ⟨s, hs, rfl⟩ : ∃ s ∈ sufs, suf = .str s := by
      simp only [List.mem_cons, List.not_mem_nil, or_false] at hsuf
      rcases hsuf with rfl | rfl | rfl | rfl
      · exact ⟨_, by simp [sufs], rfl⟩
      · exact ⟨_, by simp [sufs], rfl⟩
      · exact ⟨_, by simp [sufs], rfl⟩
      · exact ⟨_, by simp [sufs], rfl⟩
    have hpv3 := hs3 p _ hpa hpv
    have hsl : s.length ≤ 2 := by
      simp only [sufs, List.mem_cons, List.not_mem_nil, or_false] at hs
      rcases hs with rfl | rfl | rfl | rfl <;> decide
    simp only [aAdd, qFrz_k, frzK_lst, frzK_dct, frzK_tup, qSeq, qIfS, qOr, qNot, qAnd, qTB, qCB, qCons, qNil, qTup, qLstF, qVar, qC, sl, bIsi, c2, c1, m0, m1, m2, res_tup, res_lst', res_int, res_str, res_bl, res_non, res_dct, res_ty, tyN, isStr, TL.isInt, TL.isTup, TL.isBool, TL.isLst, isN, isB, qIf, qChain, cLe, cLt, cGt, cGe, cEq, cNe, cEqV, cIn, cNotIn, cIsN, cNotN, n2, bLen, lenV, bInt, bTup, qNext, qRet, qRetN, qDrop, qAndV, qOrV, qNotV, qOp, aIx, ixV, idx, aSub, aMul, aMod, aFdiv, uNeg, riAdd, riSub, qCall, qAsg, gtName, gtTup, gtCons, gtNil, iLst, iTp, qFor, TL.startT, List.replicate, List.map_cons, List.map_nil, List.length_cons, List.length_nil, List.cons_append, List.nil_append, List.append_nil, List.set_cons_succ, List.set_cons_zero, List.getElem?_cons_zero, List.getElem?_cons_succ, List.getD_cons_zero, List.getD_cons_succ, List.headD_cons, Option.isSome_some, Bool.not_true, Bool.not_false, Bool.false_eq_true, if_true, if_false, true_and, and_true, decide_eq_true_eq, decide_true, decide_false, Nat.zero_add, reduceIte, reduceCtorEq]
    refine ⟨by show 1 + s.length ≤ _; rw [sizeLine_eq]; omega, ?_⟩
    simp only [mAppend, m1, gl, hpv3]
    refine ⟨by rw [sizeLine_eq]; omega, ?_⟩
    refine hK _ _ ⟨((by assumption : Sub1 a g g').trans hs3).putp hp0, hL3.put hpa, vs ++ [.str (mkW ((dn + sn * vs.length) % 26) s)], _, by simp, by simp; omega, gput_same, fun i x hx => ?_, rfl⟩
    by_cases hi : i < vs.length
    · rw [List.getElem?_append_left hi] at hx
      exact hW i x hx
    · rw [List.getElem?_append_right (by omega)] at hx
      have : i - vs.length = 0 := by
        refine Nat.eq_zero_of_not_pos fun z => ?_
        rw [List.getElem?_eq_none (by simp; omega)] at hx
        cases hx
      have hie : i = vs.length := by omega
      subst hie
      simp only [Nat.sub_self, List.getElem?_cons_zero, Option.some.injEq] at hx
      exact ⟨s, hs, hx.symm⟩
  · rintro δ g' ⟨hs, hL', vs, x5, hus, hv6, hpv, hW, rfl⟩
    have hv : vs.length = 6 := by
      refine Nat.le_antisymm hv6 (Nat.le_of_not_lt fun z => ?_)
      have := congrArg List.length hus
      simp at this
      omega
    simp only [qFrz_k, frzK_lst, frzK_dct, frzK_tup, qSeq, qIfS, qOr, qNot, qAnd, qTB, qCB, qCons, qNil, qTup, qLstF, qVar, qC, sl, bIsi, c2, c1, m0, m1, m2, res_tup, res_lst', res_int, res_str, res_bl, res_non, res_dct, res_ty, tyN, isStr, TL.isInt, TL.isTup, TL.isBool, TL.isLst, isN, isB, qIf, qChain, cLe, cLt, cGt, cGe, cEq, cNe, cEqV, cIn, cNotIn, cIsN, cNotN, n2, bLen, lenV, bInt, bTup, qNext, qRet, qRetN, qDrop, qAndV, qOrV, qNotV, qOp, aIx, ixV, idx, aSub, aMul, aMod, aFdiv, uNeg, riAdd, riSub, qCall, qAsg, gtName, gtTup, gtCons, gtNil, iLst, iTp, qFor, TL.startT, List.replicate, List.map_cons, List.map_nil, List.length_cons, List.length_nil, List.cons_append, List.nil_append, List.append_nil, List.set_cons_succ, List.set_cons_zero, List.getElem?_cons_zero, List.getElem?_cons_succ, List.getD_cons_zero, List.getD_cons_succ, List.headD_cons, Option.isSome_some, Bool.not_true, Bool.not_false, Bool.false_eq_true, if_true, if_false, true_and, and_true, decide_eq_true_eq, decide_true, decide_false, Nat.zero_add, reduceIte, reduceCtorEq]
    rw [frzK_refL hpv]
    refine q vs _ (hs.delp hp0) (hL'.del hpa) ?_
    -- the words
    have hx : ∀ (i : Nat) (h : i < vs.length), ∃ s ∈ sufs, vs[i] = .str (mkW ((dn + sn * i) % 26) s) := fun i h => hW i _ (List.getElem?_eq_getElem h)
    refine ⟨vs.map fun t => match t with | .str x => x | _ => "", ?_, by simp [hv], ?_, ?_⟩
    · rw [List.map_map]
      refine (List.map_id' vs).symm.trans (List.map_congr_left fun t ht => ?_)
      obtain ⟨i, hi, rfl⟩ := List.mem_iff_getElem.mp ht
      obtain ⟨s, _, e⟩ := hx i hi
      rw [e]; rfl
    · intro x hxm
      obtain ⟨t, ht, rfl⟩ := List.mem_map.mp hxm
      obtain ⟨i, hi, rfl⟩ := List.mem_iff_getElem.mp ht
      obtain ⟨s, hs, e⟩ := hx i hi
      rw [e]
      exact okWb_ok (mkW_ok _ (Nat.mod_lt _ (by omega)) s hs)
    · rw [List.nodup_iff_pairwise_ne, List.pairwise_iff_getElem]
      intro i j hi hj hij z
      simp only [List.length_map] at hi hj
      obtain ⟨s, hs, e⟩ := hx i hi
      obtain ⟨s2, hs2, e2⟩ := hx j hj
      simp only [List.getElem_map, e, e2] at z
      have h1 := mkW_hd _ (Nat.mod_lt (dn + sn * i) (by omega : 26 > 0)) s hs
      have h2 := mkW_hd _ (Nat.mod_lt (dn + sn * j) (by omega : 26 > 0)) s2 hs2
      rw [z, h2] at h1
      have h3 := small_inj _ (Nat.mod_lt _ (by omega)) _ (Nat.mod_lt _ (by omega)) (Option.some.inj h1).symm
      have := step_inj dn hdn sn hsn i (by omega) j (by omega) h3
      omega
end K82
set_option Elab.async false
set_option linter.all false
set_option maxRecDepth 100000
set_option maxHeartbeats 4000000
namespace K82
open PySem PySem.Spec L2 PyProof.Rows TL
def fars : List Int := [7, -(10 ^ 20), 10 ^ 39 + 3]
def csT (x4 x5 : PySem.Str) (n far : Int) : List T := [.int n, .int far, .tup [.str x4], .tup [.str x5, .int n]]
def sp_consts : TSp := fun ds g Q _ => ∃ a x0 x1 x2 x3 x4 x5, ds = [.ref a, .lst [.str x0, .str x1, .str x2, .str x3, .str x4, .str x5]] ∧ Lf g a ∧ ∀ n far g', Sub1 a g g' → Lf g' a → -2 ≤ n → n ≤ 2 → far ∈ fars → Q (.lst (csT x4 x5 n far)) g'
theorem p_consts (ds : List T) (g : G) (Q : K1) (h : sp_consts ds g Q noX) : t__law_constants sp_pick { nx := fun _ g' => Q .non g', rt := Q } (TL.startT N__law_constants ds) g := by
  obtain ⟨a, x0, x1, x2, x3, x4, x5, rfl, hL, q⟩ := h
  unfold t__law_constants
  simp only [qFrz_k, frzK_lst, frzK_dct, frzK_tup, qSeq, qIfS, qOr, qNot, qAnd, qTB, qCB, qCons, qNil, qTup, qLstF, qVar, qC, sl, bIsi, c2, c1, m0, m1, m2, res_tup, res_lst', res_int, res_str, res_bl, res_non, res_dct, res_ty, tyN, isStr, TL.isInt, TL.isTup, TL.isBool, TL.isLst, isN, isB, qIf, qChain, cLe, cLt, cGt, cGe, cEq, cNe, cEqV, cIn, cNotIn, cIsN, cNotN, n2, bLen, lenV, bInt, bTup, qNext, qRet, qRetN, qDrop, qAndV, qOrV, qNotV, qOp, aIx, aSub, aMul, aMod, aFdiv, uNeg, riAdd, riSub, qCall, qAsg, gtName, gtTup, gtCons, gtNil, iLst, iTp, qFor, TL.startT, List.replicate, List.map_cons, List.map_nil, List.length_cons, List.length_nil, List.cons_append, List.nil_append, List.append_nil, List.set_cons_succ, List.set_cons_zero, List.getElem?_cons_zero, List.getElem?_cons_succ, List.getD_cons_zero, List.getD_cons_succ, List.headD_cons, Option.isSome_some, Bool.not_true, Bool.not_false, Bool.false_eq_true, if_true, if_false, true_and, and_true, decide_eq_true_eq, decide_true, decide_false, Nat.zero_add, reduceIte, reduceCtorEq]
  refine ⟨a, 5, rfl, hL, by omega, by omega, fun d g1 hs1 hL1 hd0 hd1 => ?_⟩
  simp only [qFrz_k, frzK_lst, frzK_dct, frzK_tup, qSeq, qIfS, qOr, qNot, qAnd, qTB, qCB, qCons, qNil, qTup, qLstF, qVar, qC, sl, bIsi, c2, c1, m0, m1, m2, res_tup, res_lst', res_int, res_str, res_bl, res_non, res_dct, res_ty, tyN, isStr, TL.isInt, TL.isTup, TL.isBool, TL.isLst, isN, isB, qIf, qChain, cLe, cLt, cGt, cGe, cEq, cNe, cEqV, cIn, cNotIn, cIsN, cNotN, n2, bLen, lenV, bInt, bTup, qNext, qRet, qRetN, qDrop, qAndV, qOrV, qNotV, qOp, aIx, aSub, aMul, aMod, aFdiv, uNeg, riAdd, riSub, qCall, qAsg, gtName, gtTup, gtCons, gtNil, iLst, iTp, qFor, TL.startT, List.replicate, List.map_cons, List.map_nil, List.length_cons, List.length_nil, List.cons_append, List.nil_append, List.append_nil, List.set_cons_succ, List.set_cons_zero, List.getElem?_cons_zero, List.getElem?_cons_succ, List.getD_cons_zero, List.getD_cons_succ, List.headD_cons, Option.isSome_some, Bool.not_true, Bool.not_false, Bool.false_eq_true, if_true, if_false, true_and, and_true, decide_eq_true_eq, decide_true, decide_false, Nat.zero_add, reduceIte, reduceCtorEq, aPow, aAdd]
  refine ⟨⟨by omega, by omega, by decide⟩, ⟨by omega, by omega, by decide⟩, by rw [sizeLine_eq]; omega, ?_⟩
  refine ⟨a, 3, rfl, hL1, by omega, by omega, fun e g2 hs2 hL2 he0 he1 => ?_⟩
  refine ixL he0 (by simpa using he1) fun t ht => ?_
  have ht' : ∃ far ∈ fars, t = .int far := by
    simp only [List.mem_cons, List.not_mem_nil, or_false] at ht
    rcases ht with rfl | rfl | rfl
    · exact ⟨7, by simp [fars], rfl⟩
    · exact ⟨-(10 ^ 20), by simp [fars], rfl⟩
    · exact ⟨10 ^ 39 + 3, by simp [fars], rfl⟩
  obtain ⟨far, hf, rfl⟩ := ht'
  simp only [qFrz_k, frzK_lst, frzK_dct, frzK_tup, qSeq, qIfS, qOr, qNot, qAnd, qTB, qCB, qCons, qNil, qTup, qLstF, qVar, qC, sl, bIsi, c2, c1, m0, m1, m2, res_tup, res_lst', res_int, res_str, res_bl, res_non, res_dct, res_ty, tyN, isStr, TL.isInt, TL.isTup, TL.isBool, TL.isLst, isN, isB, qIf, qChain, cLe, cLt, cGt, cGe, cEq, cNe, cEqV, cIn, cNotIn, cIsN, cNotN, n2, bLen, lenV, bInt, bTup, qNext, qRet, qRetN, qDrop, qAndV, qOrV, qNotV, qOp, aIx, ixV, idx, aSub, aMul, aMod, aFdiv, uNeg, riAdd, riSub, qCall, qAsg, gtName, gtTup, gtCons, gtNil, iLst, iTp, qFor, TL.startT, List.replicate, List.map_cons, List.map_nil, List.length_cons, List.length_nil, List.cons_append, List.nil_append, List.append_nil, List.set_cons_succ, List.set_cons_zero, List.getElem?_cons_zero, List.getElem?_cons_succ, List.getD_cons_zero, List.getD_cons_succ, List.headD_cons, Option.isSome_some, Bool.not_true, Bool.not_false, Bool.false_eq_true, if_true, if_false, true_and, and_true, decide_eq_true_eq, decide_true, decide_false, Nat.zero_add, reduceIte, reduceCtorEq]
  refine ⟨by rw [sizeLine_eq]; omega, by rw [sizeLine_eq]; omega, by rw [sizeLine_eq]; omega, ?_⟩
  exact q _ far g2 (hs1.trans hs2) hL2 (by omega) (by omega) hf
def eightT (x0 x1 x2 x3 x4 : PySem.Str) (n far : Int) : List T := [.tup [.str x0], .tup [.str x0, .int n], .tup [.str x1, .int n, .int far], .tup [.str x1], .tup [.str x2, .tup [.str x4]], .tup [.str x2, .int n], .tup [.str x3], .tup [.str x0, .int far]]
def sp_eight : TSp := fun ds g Q _ => ∃ x0 x1 x2 x3 x4 x5 n far, ds = [.lst [.str x0, .str x1, .str x2, .str x3, .str x4, .str x5], .lst (csT x4 x5 n far)] ∧ Q (.lst (eightT x0 x1 x2 x3 x4 n far)) g
theorem p_eight (ds : List T) (g : G) (Q : K1) (h : sp_eight ds g Q noX) : t__law_eight { nx := fun _ g' => Q .non g', rt := Q } (TL.startT N__law_eight ds) g := by
  obtain ⟨x0, x1, x2, x3, x4, x5, n, far, rfl, q⟩ := h
  unfold t__law_eight csT
  have hz : (1 : Nat) ≤ sizeLine := by rw [sizeLine_eq]; omega
  have hz2 : (1 + 1 : Nat) ≤ sizeLine := by rw [sizeLine_eq]; omega
  have hz3 : (1 + 1 + 1 : Nat) ≤ sizeLine := by rw [sizeLine_eq]; omega
  have hz4 : (1 + 1 + 1 + 1 : Nat) ≤ sizeLine := by rw [sizeLine_eq]; omega
  refine And.intro hz (And.intro hz2 (And.intro hz3 (And.intro hz (And.intro hz4 ?_))))
  refine And.intro hz2 (And.intro hz2 (And.intro hz (And.intro hz2 (And.intro hz4 ?_))))
  refine And.intro (by rw [sizeLine_eq]; simp) fun p hp => ?_
  have e : ∀ ts : List T, frzK Q (.ref p) (gput g p (.lst ts)) = Q (.lst ts) g := fun ts => frzK_putL hp
  show frzK Q (.ref p) (gput g p (.lst _))
  rw [e]
  exact q
/-- the drawn facts and the goal -/
structure Ev (every : List T) (goal : T) : Prop where
  fc : ∀ t ∈ every, Fc t
  len : every.length = 8
  g : Fc goal
  sh : ∀ t ∈ every, shT t ≠ shT goal
theorem th0 {x : PySem.Str} (w : okW x) (n : Nat) : Th n (.tup [.str x]) := by
  cases n with
  | zero => exact ⟨x, rfl, w⟩
  | succ n => exact ⟨x, [], rfl, w, by simp, by simp⟩
theorem thI {i : Int} (h : -(10 ^ 40 : Int) < i ∧ i < 10 ^ 40) (n : Nat) : Th n (.int i) := by cases n <;> exact h
theorem th1 {x : PySem.Str} {r : List T} {n : Nat} (w : okW x) (hl : r.length ≤ 4) (h : ∀ t ∈ r, Th n t) : Th (n + 1) (.tup (.str x :: r)) := ⟨x, r, rfl, w, hl, h⟩
theorem ev_ok {xs : List PySem.Str} {x0 x1 x2 x3 x4 x5 : PySem.Str} {n far : Int} (e : xs = [x0, x1, x2, x3, x4, x5]) (hx : ∀ x ∈ xs, okW x) (hnd : xs.Nodup) (h1 : -2 ≤ n) (h2 : n ≤ 2) (hf : far ∈ fars) : Ev (eightT x0 x1 x2 x3 x4 n far) (.tup [.str x5, .int 1]) := by
  subst e
  have w0 := hx x0 (by simp)
  have w1 := hx x1 (by simp)
  have w2 := hx x2 (by simp)
  have w3 := hx x3 (by simp)
  have w4 := hx x4 (by simp)
  have w5 := hx x5 (by simp)
  simp only [List.nodup_cons, List.mem_cons, List.not_mem_nil, or_false, not_or] at hnd
  have hn : ∀ k, Th k (.int n) := thI (by omega)
  have hfar : ∀ k, Th k (.int far) := thI (by
    simp only [fars, List.mem_cons, List.not_mem_nil, or_false] at hf
    rcases hf with rfl | rfl | rfl <;> decide)
  refine ⟨fun t ht => ⟨?_, ?_⟩, rfl, ⟨⟨_, rfl⟩, th1 w5 (by simp) fun t ht => ?_⟩, fun t ht z => ?_⟩
  · simp only [eightT, List.mem_cons, List.not_mem_nil, or_false] at ht
    rcases ht with rfl | rfl | rfl | rfl | rfl | rfl | rfl | rfl <;> exact ⟨_, rfl⟩
  · simp only [eightT, List.mem_cons, List.not_mem_nil, or_false] at ht
    rcases ht with rfl | rfl | rfl | rfl | rfl | rfl | rfl | rfl
    · exact th0 w0 _
    · exact th1 w0 (by simp) fun t ht => by rw [List.mem_singleton.mp ht]; exact hn _
    · exact th1 w1 (by simp) fun t ht => by
        rcases List.mem_cons.mp ht with rfl | ht
        · exact hn _
        · rw [List.mem_singleton.mp ht]; exact hfar _
    · exact th0 w1 _
    · exact th1 w2 (by simp) fun t ht => by rw [List.mem_singleton.mp ht]; exact th0 w4 _
    · exact th1 w2 (by simp) fun t ht => by rw [List.mem_singleton.mp ht]; exact hn _
    · exact th0 w3 _
    · exact th1 w0 (by simp) fun t ht => by rw [List.mem_singleton.mp ht]; exact hfar _
  · rw [List.mem_singleton.mp ht]
    exact thI (by decide) _
  · have hw : ∀ x r, t = .tup (.str x :: r) → x = x5 := fun x r e => by
      rw [e] at z
      simp only [shT] at z
      injection z with z
      injection z with z _
      injection z
    simp only [eightT, List.mem_cons, List.not_mem_nil, or_false] at ht
    rcases ht with e | e | e | e | e | e | e | e
    all_goals
      have := hw _ _ e
      subst this
      simp_all
def sp_mixed : TSp := fun ds g Q _ => ∃ a fs, ds = [.ref a, .lst fs] ∧ Lf g a ∧ fs.length ≤ 100 ∧ ∀ p g' out, Sub1 a g g' → Lf g' a → g p = none → g' p = some (.lst out) → out.Perm fs → Q (.ref p) g'
theorem p_mixed (ds : List T) (g : G) (Q : K1) (h : sp_mixed ds g Q noX) : t__law_mixed_up sp_pick { nx := fun _ g' => Q .non g', rt := Q } (TL.startT N__law_mixed_up ds) g := by
  obtain ⟨a, fs, rfl, hL, hl, q⟩ := h
  unfold t__law_mixed_up
  simp only [qFrz_k, frzK_lst, frzK_dct, frzK_tup, qSeq, qIfS, qOr, qNot, qAnd, qTB, qCB, qCons, qNil, qTup, qLstF, qVar, qC, sl, bIsi, c2, c1, m0, m1, m2, res_tup, res_lst', res_int, res_str, res_bl, res_non, res_dct, res_ty, tyN, isStr, TL.isInt, TL.isTup, TL.isBool, TL.isLst, isN, isB, qIf, qChain, cLe, cLt, cGt, cGe, cEq, cNe, cEqV, cIn, cNotIn, cIsN, cNotN, n2, bLen, lenV, bInt, bTup, qNext, qRet, qRetN, qDrop, qAndV, qOrV, qNotV, qOp, aIx, ixV, idx, aSub, aMul, aMod, aFdiv, uNeg, riAdd, riSub, qCall, qAsg, gtName, gtTup, gtCons, gtNil, iLst, iTp, qFor, TL.startT, List.replicate, List.map_cons, List.map_nil, List.length_cons, List.length_nil, List.cons_append, List.nil_append, List.append_nil, List.set_cons_succ, List.set_cons_zero, List.getElem?_cons_zero, List.getElem?_cons_succ, List.getD_cons_zero, List.getD_cons_succ, List.headD_cons, Option.isSome_some, Bool.not_true, Bool.not_false, Bool.false_eq_true, if_true, if_false, true_and, and_true, decide_eq_true_eq, decide_true, decide_false, Nat.zero_add, reduceIte, reduceCtorEq, qLst]
  refine ⟨Nat.zero_le _, fun p hp => ?_⟩
  have hpa := hL.ne hp
  refine wFor_I (fun us δ g' => Sub1 a g g' ∧ Lf g' a ∧ ∃ vs x3, g' p = some (.lst vs) ∧ vs.length + us.length = fs.length ∧ (vs ++ us).Perm fs ∧ δ = [some (.ref a), some (.lst fs), some (.ref p), x3]) (fun _ _ _ _ => trivial) ?_ ?_ _ _ _
    ⟨Sub1.refl.putp hp, hL.put hpa, [], _, gput_same, by simp, .refl _, rfl⟩
  · rintro t us δ g' ⟨hs, hL', vs, x3, hpv, hz, hperm, rfl⟩ K hK
    simp only [List.length_cons] at hz
    simp only [qFrz_k, frzK_lst, frzK_dct, frzK_tup, qSeq, qIfS, qOr, qNot, qAnd, qTB, qCB, qCons, qNil, qTup, qLstF, qVar, qC, sl, bIsi, c2, c1, m0, m1, m2, res_tup, res_lst', res_int, res_str, res_bl, res_non, res_dct, res_ty, tyN, isStr, TL.isInt, TL.isTup, TL.isBool, TL.isLst, isN, isB, qIf, qChain, cLe, cLt, cGt, cGe, cEq, cNe, cEqV, cIn, cNotIn, cIsN, cNotN, n2, bLen, lenV, bInt, bTup, qNext, qRet, qRetN, qDrop, qAndV, qOrV, qNotV, qOp, aIx, ixV, idx, aSub, aMul, aMod, aFdiv, uNeg, riAdd, riSub, qCall, qAsg, gtName, gtTup, gtCons, gtNil, iLst, iTp, qFor, TL.startT, List.replicate, List.map_cons, List.map_nil, List.length_cons, List.length_nil, List.cons_append, List.nil_append, List.append_nil, List.set_cons_succ, List.set_cons_zero, List.getElem?_cons_zero, List.getElem?_cons_succ, List.getD_cons_zero, List.getD_cons_succ, List.headD_cons, Option.isSome_some, Bool.not_true, Bool.not_false, Bool.false_eq_true, if_true, if_false, true_and, and_true, decide_eq_true_eq, decide_true, decide_false, Nat.zero_add, reduceIte, reduceCtorEq, qBM, res_refL hpv, isTp, aAdd]
    refine ⟨by decide, a, _, rfl, hL', by omega, by omega, fun d g2 hs2 hL2 hd0 hd1 => ?_⟩
    have hpv2 := hs2 p _ hpa hpv
    simp only [qFrz_k, frzK_lst, frzK_dct, frzK_tup, qSeq, qIfS, qOr, qNot, qAnd, qTB, qCB, qCons, qNil, qTup, qLstF, qVar, qC, sl, bIsi, c2, c1, m0, m1, m2, res_tup, res_lst', res_int, res_str, res_bl, res_non, res_dct, res_ty, tyN, isStr, TL.isInt, TL.isTup, TL.isBool, TL.isLst, isN, isB, qIf, qChain, cLe, cLt, cGt, cGe, cEq, cNe, cEqV, cIn, cNotIn, cIsN, cNotN, n2, bLen, lenV, bInt, bTup, qNext, qRet, qRetN, qDrop, qAndV, qOrV, qNotV, qOp, aIx, ixV, idx, aSub, aMul, aMod, aFdiv, uNeg, riAdd, riSub, qCall, qAsg, gtName, gtTup, gtCons, gtNil, iLst, iTp, qFor, TL.startT, List.replicate, List.map_cons, List.map_nil, List.length_cons, List.length_nil, List.cons_append, List.nil_append, List.append_nil, List.set_cons_succ, List.set_cons_zero, List.getElem?_cons_zero, List.getElem?_cons_succ, List.getD_cons_zero, List.getD_cons_succ, List.headD_cons, Option.isSome_some, Bool.not_true, Bool.not_false, Bool.false_eq_true, if_true, if_false, true_and, and_true, decide_eq_true_eq, decide_true, decide_false, Nat.zero_add, reduceIte, reduceCtorEq, mInsert, m2, gl, hpv2]
    refine ⟨by rw [sizeLine_eq]; omega, hd0, by omega, ?_⟩
    refine hK _ _ ⟨(hs.trans hs2).putp hp, hL2.put hpa, _, _, gput_same, ?_, ?_, rfl⟩
    · simp only [List.length_append, List.length_take, List.length_drop, List.length_cons, List.length_nil]
      omega
    · refine List.Perm.trans ?_ hperm
      have e : vs ++ t :: us = (vs ++ [t]) ++ us := by simp
      rw [e]
      refine List.Perm.append_right us ?_
      refine (List.perm_append_comm (l₁ := vs.take d.toNat) (l₂ := [t])).append_right _ |>.trans ?_
      rw [List.append_assoc, List.take_append_drop]
      exact List.perm_append_comm
  · rintro δ g' ⟨hs, hL', vs, x3, hpv, hz, hperm, rfl⟩
    simp only [qFrz_k, frzK_lst, frzK_dct, frzK_tup, qSeq, qIfS, qOr, qNot, qAnd, qTB, qCB, qCons, qNil, qTup, qLstF, qVar, qC, sl, bIsi, c2, c1, m0, m1, m2, res_tup, res_lst', res_int, res_str, res_bl, res_non, res_dct, res_ty, tyN, isStr, TL.isInt, TL.isTup, TL.isBool, TL.isLst, isN, isB, qIf, qChain, cLe, cLt, cGt, cGe, cEq, cNe, cEqV, cIn, cNotIn, cIsN, cNotN, n2, bLen, lenV, bInt, bTup, qNext, qRet, qRetN, qDrop, qAndV, qOrV, qNotV, qOp, aIx, ixV, idx, aSub, aMul, aMod, aFdiv, uNeg, riAdd, riSub, qCall, qAsg, gtName, gtTup, gtCons, gtNil, iLst, iTp, qFor, TL.startT, List.replicate, List.map_cons, List.map_nil, List.length_cons, List.length_nil, List.cons_append, List.nil_append, List.append_nil, List.set_cons_succ, List.set_cons_zero, List.getElem?_cons_zero, List.getElem?_cons_succ, List.getD_cons_zero, List.getD_cons_succ, List.headD_cons, Option.isSome_some, Bool.not_true, Bool.not_false, Bool.false_eq_true, if_true, if_false, true_and, and_true, decide_eq_true_eq, decide_true, decide_false, Nat.zero_add, reduceIte, reduceCtorEq]
    rw [List.append_nil] at hperm
    exact q p g' vs hs hL' hp hpv hperm
end K82
set_option Elab.async false
set_option linter.all false
set_option maxRecDepth 100000
set_option maxHeartbeats 4000000
namespace K82
open PySem PySem.Spec L2 PyProof.Rows TL
def sp_rules : TSp := fun ds g Q _ => ∃ a every goal, ds = [.ref a, .lst every, goal] ∧ Ev every goal ∧ Lf g a ∧ ∀ rs g', Sub1 a g g' → Lf g' a → RsOk goal rs → rs ≠ [] → Q (.lst rs) g'
def okP (goal p : T) : Prop := ∃ w a, Pt p w a ∧ Fc a ∧ shT a ≠ shT goal
theorem p_some_rules (ds : List T) (g : G) (Q : K1) (h : sp_rules ds g Q noX) : t__law_some_rules sp_pick { nx := fun _ g' => Q .non g', rt := Q } (TL.startT N__law_some_rules ds) g := by
  obtain ⟨a, every, goal, rfl, hE, hL, q⟩ := h
  unfold t__law_some_rules
  simp only [qFrz_k, frzK_lst, frzK_dct, frzK_tup, qSeq, qIfS, qOr, qNot, qAnd, qTB, qCB, qCons, qNil, qTup, qLstF, qVar, qC, sl, bIsi, c2, c1, m0, m1, m2, res_tup, res_lst', res_int, res_str, res_bl, res_non, res_dct, res_ty, tyN, isStr, TL.isInt, TL.isTup, TL.isBool, TL.isLst, isN, isB, qIf, qChain, cLe, cLt, cGt, cGe, cEq, cNe, cEqV, cIn, cNotIn, cIsN, cNotN, n2, bLen, lenV, bInt, bTup, qNext, qRet, qRetN, qDrop, qAndV, qOrV, qNotV, qOp, aIx, aSub, aMul, aMod, aFdiv, uNeg, riAdd, riSub, qCall, qAsg, gtName, gtTup, gtCons, gtNil, iLst, iTp, qFor, TL.startT, List.replicate, List.map_cons, List.map_nil, List.length_cons, List.length_nil, List.cons_append, List.nil_append, List.append_nil, List.set_cons_succ, List.set_cons_zero, List.getElem?_cons_zero, List.getElem?_cons_succ, List.getD_cons_zero, List.getD_cons_succ, List.headD_cons, Option.isSome_some, Bool.not_true, Bool.not_false, Bool.false_eq_true, if_true, if_false, true_and, and_true, decide_eq_true_eq, decide_true, decide_false, Nat.zero_add, reduceIte, reduceCtorEq, qLst]
  refine ⟨Nat.zero_le _, fun p hp => ?_⟩
  have hpa := hL.ne hp
  simp only [qFrz_k, frzK_lst, frzK_dct, frzK_tup, qSeq, qIfS, qOr, qNot, qAnd, qTB, qCB, qCons, qNil, qTup, qLstF, qVar, qC, sl, bIsi, c2, c1, m0, m1, m2, res_tup, res_lst', res_int, res_str, res_bl, res_non, res_dct, res_ty, tyN, isStr, TL.isInt, TL.isTup, TL.isBool, TL.isLst, isN, isB, qIf, qChain, cLe, cLt, cGt, cGe, cEq, cNe, cEqV, cIn, cNotIn, cIsN, cNotN, n2, bLen, lenV, bInt, bTup, qNext, qRet, qRetN, qDrop, qAndV, qOrV, qNotV, qOp, aIx, aSub, aMul, aMod, aFdiv, uNeg, riAdd, riSub, qCall, qAsg, gtName, gtTup, gtCons, gtNil, iLst, iTp, qFor, TL.startT, List.replicate, List.map_cons, List.map_nil, List.length_cons, List.length_nil, List.cons_append, List.nil_append, List.append_nil, List.set_cons_succ, List.set_cons_zero, List.getElem?_cons_zero, List.getElem?_cons_succ, List.getD_cons_zero, List.getD_cons_succ, List.headD_cons, Option.isSome_some, Bool.not_true, Bool.not_false, Bool.false_eq_true, if_true, if_false, true_and, and_true, decide_eq_true_eq, decide_true, decide_false, Nat.zero_add, reduceIte, reduceCtorEq, TL.iRng1]
  refine ⟨by rw [sizeLine_eq]; omega, a, 8, rfl, hL.put hpa, by omega, by omega, fun d g1 hs1 hL1 hd0 hd1 => ?_⟩
  refine ixL hd0 (by simpa using hd1) fun t ht => ?_
  obtain ⟨c, hc1, hk2, rfl⟩ : ∃ c : Nat, 1 ≤ c ∧ c ≤ 8 ∧ t = .int (c : Int) := by
    simp only [List.mem_cons, List.not_mem_nil, or_false] at ht
    rcases ht with rfl | rfl | rfl | rfl | rfl | rfl | rfl | rfl
    · exact ⟨1, by omega, by omega, rfl⟩
    · exact ⟨2, by omega, by omega, rfl⟩
    · exact ⟨3, by omega, by omega, rfl⟩
    · exact ⟨1, by omega, by omega, rfl⟩
    · exact ⟨2, by omega, by omega, rfl⟩
    · exact ⟨3, by omega, by omega, rfl⟩
    · exact ⟨2, by omega, by omega, rfl⟩
    · exact ⟨8, by omega, by omega, rfl⟩
  simp only
  refine ⟨by omega, by omega, ?_⟩
  rw [Int.toNat_natCast]
  have hp1 := hs1 p _ hpa gput_same
  have hsg : Sub1 a g g1 := (Sub1.refl.putp hp).trans hs1
  have hrl : (TL.rangeT 0 c).length = c := by simp [TL.rangeT]
  generalize TL.rangeT 0 c = its at hrl ⊢
  refine wFor_I (fun us δ g' => Sub1 a g g' ∧ Lf g' a ∧ ∃ vs x4 x5 x6 x7, g' p = some (.lst vs) ∧ vs.length + us.length = c ∧ (∀ r ∈ vs, Rl goal r) ∧ δ = [some (.ref a), some (.lst every), some goal, some (.ref p), x4, x5, x6, x7]) (fun _ _ _ _ => trivial) ?_ ?_ _ _ _
    ⟨hsg, hL1, [], _, _, _, _, hp1, by simp [hrl], fun r hr => (by cases hr), rfl⟩
  · rintro t us δ g' ⟨hs, hL', vs, x4, x5, x6, x7, hpv, hz, hv, rfl⟩ K hK
    simp only [List.length_cons] at hz
    simp only [qFrz_k, frzK_lst, frzK_dct, frzK_tup, qSeq, qIfS, qOr, qNot, qAnd, qTB, qCB, qCons, qNil, qTup, qLstF, qVar, qC, sl, bIsi, c2, c1, m0, m1, m2, res_tup, res_lst', res_int, res_str, res_bl, res_non, res_dct, res_ty, tyN, isStr, TL.isInt, TL.isTup, TL.isBool, TL.isLst, isN, isB, qIf, qChain, cLe, cLt, cGt, cGe, cEq, cNe, cEqV, cIn, cNotIn, cIsN, cNotN, n2, bLen, lenV, bInt, bTup, qNext, qRet, qRetN, qDrop, qAndV, qOrV, qNotV, qOp, aIx, aSub, aMul, aMod, aFdiv, uNeg, riAdd, riSub, qCall, qAsg, gtName, gtTup, gtCons, gtNil, iLst, iTp, qFor, TL.startT, List.replicate, List.map_cons, List.map_nil, List.length_cons, List.length_nil, List.cons_append, List.nil_append, List.append_nil, List.set_cons_succ, List.set_cons_zero, List.getElem?_cons_zero, List.getElem?_cons_succ, List.getD_cons_zero, List.getD_cons_succ, List.headD_cons, Option.isSome_some, Bool.not_true, Bool.not_false, Bool.false_eq_true, if_true, if_false, true_and, and_true, decide_eq_true_eq, decide_true, decide_false, Nat.zero_add, reduceIte, reduceCtorEq, qLst]
    refine ⟨Nat.zero_le _, fun p5 hp5 => ?_⟩
    have hp5a := hL'.ne hp5
    have hp5p : p5 ≠ p := fun z => by rw [z, hpv] at hp5; cases hp5
    have hp5g : g p5 = none := Sub1.none' hs hp5 hp5a
    simp only [qFrz_k, frzK_lst, frzK_dct, frzK_tup, qSeq, qIfS, qOr, qNot, qAnd, qTB, qCB, qCons, qNil, qTup, qLstF, qVar, qC, sl, bIsi, c2, c1, m0, m1, m2, res_tup, res_lst', res_int, res_str, res_bl, res_non, res_dct, res_ty, tyN, isStr, TL.isInt, TL.isTup, TL.isBool, TL.isLst, isN, isB, qIf, qChain, cLe, cLt, cGt, cGe, cEq, cNe, cEqV, cIn, cNotIn, cIsN, cNotN, n2, bLen, lenV, bInt, bTup, qNext, qRet, qRetN, qDrop, qAndV, qOrV, qNotV, qOp, aIx, aSub, aMul, aMod, aFdiv, uNeg, riAdd, riSub, qCall, qAsg, gtName, gtTup, gtCons, gtNil, iLst, iTp, qFor, TL.startT, List.replicate, List.map_cons, List.map_nil, List.length_cons, List.length_nil, List.cons_append, List.nil_append, List.append_nil, List.set_cons_succ, List.set_cons_zero, List.getElem?_cons_zero, List.getElem?_cons_succ, List.getD_cons_zero, List.getD_cons_succ, List.headD_cons, Option.isSome_some, Bool.not_true, Bool.not_false, Bool.false_eq_true, if_true, if_false, true_and, and_true, decide_eq_true_eq, decide_true, decide_false, Nat.zero_add, reduceIte, reduceCtorEq, TL.iRng1]
    refine ⟨by rw [sizeLine_eq]; omega, a, 8, rfl, hL'.put hp5a, by omega, by omega, fun d2 g2 hs2 hL2 hd20 hd21 => ?_⟩
    refine ixL hd20 (by simpa using hd21) fun t2 ht2 => ?_
    obtain ⟨k2, hk2, rfl⟩ : ∃ c : Nat, c ≤ 6 ∧ t2 = .int (c : Int) := by
      simp only [List.mem_cons, List.not_mem_nil, or_false] at ht2
      rcases ht2 with rfl | rfl | rfl | rfl | rfl | rfl | rfl | rfl
      · exact ⟨1, by omega, rfl⟩
      · exact ⟨2, by omega, rfl⟩
      · exact ⟨2, by omega, rfl⟩
      · exact ⟨3, by omega, rfl⟩
      · exact ⟨3, by omega, rfl⟩
      · exact ⟨4, by omega, rfl⟩
      · exact ⟨5, by omega, rfl⟩
      · exact ⟨6, by omega, rfl⟩
    simp only
    refine ⟨by omega, by omega, ?_⟩
    rw [Int.toNat_natCast]
    have hrl2 : (TL.rangeT 0 k2).length = k2 := by simp [TL.rangeT]
    generalize TL.rangeT 0 k2 = its2 at hrl2 ⊢
    have hp52 := hs2 p5 _ hp5a gput_same
    have hpv2 := hs2 p _ hpa ((gput_ne hp5p.symm).trans hpv)
    refine wFor_I (fun us2 δ g' => Sub1 a g g' ∧ Lf g' a ∧ ∃ bs x6 x7, g' p5 = some (.lst bs) ∧ g' p = some (.lst vs) ∧ bs.length + us2.length = k2 ∧ (∀ p ∈ bs, okP goal p) ∧ δ = [some (.ref a), some (.lst every), some goal, some (.ref p), some t, some (.ref p5), x6, x7]) (fun _ _ _ _ => trivial) ?_ ?_ _ _ _
      ⟨(hs.putp hp5g).trans hs2, hL2, [], _, _, hp52, hpv2, by simp [hrl2], fun r hr => (by cases hr), rfl⟩
    · rintro t3 us2 δ g3 ⟨hs3, hL3, bs, x6, x7, hp53, hpv3, hz3, hb3, rfl⟩ K2 hK2
      simp only [List.length_cons] at hz3
      simp only [qFrz_k, frzK_lst, frzK_dct, frzK_tup, qSeq, qIfS, qOr, qNot, qAnd, qTB, qCB, qCons, qNil, qTup, qLstF, qVar, qC, sl, bIsi, c2, c1, m0, m1, m2, res_tup, res_lst', res_int, res_str, res_bl, res_non, res_dct, res_ty, tyN, isStr, TL.isInt, TL.isTup, TL.isBool, TL.isLst, isN, isB, qIf, qChain, cLe, cLt, cGt, cGe, cEq, cNe, cEqV, cIn, cNotIn, cIsN, cNotN, n2, bLen, lenV, bInt, bTup, qNext, qRet, qRetN, qDrop, qAndV, qOrV, qNotV, qOp, aIx, aSub, aMul, aMod, aFdiv, uNeg, riAdd, riSub, qCall, qAsg, gtName, gtTup, gtCons, gtNil, iLst, iTp, qFor, TL.startT, List.replicate, List.map_cons, List.map_nil, List.length_cons, List.length_nil, List.cons_append, List.nil_append, List.append_nil, List.set_cons_succ, List.set_cons_zero, List.getElem?_cons_zero, List.getElem?_cons_succ, List.getD_cons_zero, List.getD_cons_succ, List.headD_cons, Option.isSome_some, Bool.not_true, Bool.not_false, Bool.false_eq_true, if_true, if_false, true_and, and_true, decide_eq_true_eq, decide_true, decide_false, Nat.zero_add, reduceIte, reduceCtorEq]
      refine ⟨by rw [sizeLine_eq]; omega, a, 3, rfl, hL3, by omega, by omega, fun d4 g4 hs4 hL4 hd40 hd41 => ?_⟩
      refine ixL hd40 (by simpa using hd41) fun t4 ht4 => ?_
      obtain ⟨w, hw, rfl⟩ : ∃ w : PySem.Str, (w = "is" ∨ w = "not") ∧ t4 = .str w := by
        simp only [List.mem_cons, List.not_mem_nil, or_false] at ht4
        rcases ht4 with rfl | rfl | rfl
        · exact ⟨_, .inl rfl, rfl⟩
        · exact ⟨_, .inl rfl, rfl⟩
        · exact ⟨_, .inr rfl, rfl⟩
      have hp54 := hs4 p5 _ hp5a hp53
      have hpv4 := hs4 p _ hpa hpv3
      simp only [qFrz_k, frzK_lst, frzK_dct, frzK_tup, qSeq, qIfS, qOr, qNot, qAnd, qTB, qCB, qCons, qNil, qTup, qLstF, qVar, qC, sl, bIsi, c2, c1, m0, m1, m2, res_tup, res_lst', res_int, res_str, res_bl, res_non, res_dct, res_ty, tyN, isStr, TL.isInt, TL.isTup, TL.isBool, TL.isLst, isN, isB, qIf, qChain, cLe, cLt, cGt, cGe, cEq, cNe, cEqV, cIn, cNotIn, cIsN, cNotN, n2, bLen, lenV, bInt, bTup, qNext, qRet, qRetN, qDrop, qAndV, qOrV, qNotV, qOp, aIx, aSub, aMul, aMod, aFdiv, uNeg, riAdd, riSub, qCall, qAsg, gtName, gtTup, gtCons, gtNil, iLst, iTp, qFor, TL.startT, List.replicate, List.map_cons, List.map_nil, List.length_cons, List.length_nil, List.cons_append, List.nil_append, List.append_nil, List.set_cons_succ, List.set_cons_zero, List.getElem?_cons_zero, List.getElem?_cons_succ, List.getD_cons_zero, List.getD_cons_succ, List.headD_cons, Option.isSome_some, Bool.not_true, Bool.not_false, Bool.false_eq_true, if_true, if_false, true_and, and_true, decide_eq_true_eq, decide_true, decide_false, Nat.zero_add, reduceIte, reduceCtorEq, qBM, res_refL hp54, isTp]
      refine ⟨by decide, a, ((every.length : Nat) : Int), rfl, hL4, by rw [hE.len]; omega, by rw [hE.len]; omega, fun d5 g5 hs5 hL5 hd50 hd51 => ?_⟩
      refine ixL hd50 hd51 fun f hf => ?_
      have hp55 := hs5 p5 _ hp5a hp54
      have hpv5 := hs5 p _ hpa hpv4
      simp only [qFrz_k, frzK_lst, frzK_dct, frzK_tup, qSeq, qIfS, qOr, qNot, qAnd, qTB, qCB, qCons, qNil, qTup, qLstF, qVar, qC, sl, bIsi, c2, c1, m0, m1, m2, res_tup, res_lst', res_int, res_str, res_bl, res_non, res_dct, res_ty, tyN, isStr, TL.isInt, TL.isTup, TL.isBool, TL.isLst, isN, isB, qIf, qChain, cLe, cLt, cGt, cGe, cEq, cNe, cEqV, cIn, cNotIn, cIsN, cNotN, n2, bLen, lenV, bInt, bTup, qNext, qRet, qRetN, qDrop, qAndV, qOrV, qNotV, qOp, aIx, aSub, aMul, aMod, aFdiv, uNeg, riAdd, riSub, qCall, qAsg, gtName, gtTup, gtCons, gtNil, iLst, iTp, qFor, TL.startT, List.replicate, List.map_cons, List.map_nil, List.length_cons, List.length_nil, List.cons_append, List.nil_append, List.append_nil, List.set_cons_succ, List.set_cons_zero, List.getElem?_cons_zero, List.getElem?_cons_succ, List.getD_cons_zero, List.getD_cons_succ, List.headD_cons, Option.isSome_some, Bool.not_true, Bool.not_false, Bool.false_eq_true, if_true, if_false, true_and, and_true, decide_eq_true_eq, decide_true, decide_false, Nat.zero_add, reduceIte, reduceCtorEq, mAppend, gl, hp55]
      refine ⟨by rw [sizeLine_eq]; omega, by rw [sizeLine_eq]; omega, ?_⟩
      refine hK2 _ _ ⟨((hs3.trans hs4).trans hs5).putp hp5g, hL5.put hp5a, _, _, _, gput_same, (gput_ne hp5p.symm).trans hpv5, by simp; omega, fun u hu => ?_, rfl⟩
      rcases List.mem_append.mp hu with hu | hu
      · exact hb3 u hu
      · rw [List.mem_singleton.mp hu]
        exact ⟨w, f, ⟨rfl, hw, (hE.fc f hf).th, (hE.fc f hf).key⟩, hE.fc f hf, hE.sh f hf⟩
    · rintro δ g3 ⟨hs3, hL3, bs, x6, x7, hp53, hpv3, hz3, hb3, rfl⟩
      simp only [qFrz_k, frzK_lst, frzK_dct, frzK_tup, qSeq, qIfS, qOr, qNot, qAnd, qTB, qCB, qCons, qNil, qTup, qLstF, qVar, qC, sl, bIsi, c2, c1, m0, m1, m2, res_tup, res_lst', res_int, res_str, res_bl, res_non, res_dct, res_ty, tyN, isStr, TL.isInt, TL.isTup, TL.isBool, TL.isLst, isN, isB, qIf, qChain, cLe, cLt, cGt, cGe, cEq, cNe, cEqV, cIn, cNotIn, cIsN, cNotN, n2, bLen, lenV, bInt, bTup, qNext, qRet, qRetN, qDrop, qAndV, qOrV, qNotV, qOp, aIx, aSub, aMul, aMod, aFdiv, uNeg, riAdd, riSub, qCall, qAsg, gtName, gtTup, gtCons, gtNil, iLst, iTp, qFor, TL.startT, List.replicate, List.map_cons, List.map_nil, List.length_cons, List.length_nil, List.cons_append, List.nil_append, List.append_nil, List.set_cons_succ, List.set_cons_zero, List.getElem?_cons_zero, List.getElem?_cons_succ, List.getD_cons_zero, List.getD_cons_succ, List.headD_cons, Option.isSome_some, Bool.not_true, Bool.not_false, Bool.false_eq_true, if_true, if_false, true_and, and_true, decide_eq_true_eq, decide_true, decide_false, Nat.zero_add, reduceIte, reduceCtorEq, qBM, res_refL hpv3, res_refL hp53, isTp, mAppend, gl, hpv3]
      refine ⟨by decide, by rw [sizeLine_eq]; omega, by rw [sizeLine_eq]; omega, ?_⟩
      refine hK _ _ ⟨hs3.putp hp, hL3.put hpa, _, _, _, _, _, gput_same, by simp; omega, fun u hu => ?_, rfl⟩
      rcases List.mem_append.mp hu with hu | hu
      · exact hv u hu
      · rw [List.mem_singleton.mp hu]
        exact ⟨bs, rfl, hb3, by simp at hz3; omega⟩
  · rintro δ g' ⟨hs, hL', vs, x4, x5, x6, x7, hpv, hz, hv, rfl⟩
    simp only [qFrz_k, frzK_lst, frzK_dct, frzK_tup, qSeq, qIfS, qOr, qNot, qAnd, qTB, qCB, qCons, qNil, qTup, qLstF, qVar, qC, sl, bIsi, c2, c1, m0, m1, m2, res_tup, res_lst', res_int, res_str, res_bl, res_non, res_dct, res_ty, tyN, isStr, TL.isInt, TL.isTup, TL.isBool, TL.isLst, isN, isB, qIf, qChain, cLe, cLt, cGt, cGe, cEq, cNe, cEqV, cIn, cNotIn, cIsN, cNotN, n2, bLen, lenV, bInt, bTup, qNext, qRet, qRetN, qDrop, qAndV, qOrV, qNotV, qOp, aIx, aSub, aMul, aMod, aFdiv, uNeg, riAdd, riSub, qCall, qAsg, gtName, gtTup, gtCons, gtNil, iLst, iTp, qFor, TL.startT, List.replicate, List.map_cons, List.map_nil, List.length_cons, List.length_nil, List.cons_append, List.nil_append, List.append_nil, List.set_cons_succ, List.set_cons_zero, List.getElem?_cons_zero, List.getElem?_cons_succ, List.getD_cons_zero, List.getD_cons_succ, List.headD_cons, Option.isSome_some, Bool.not_true, Bool.not_false, Bool.false_eq_true, if_true, if_false, true_and, and_true, decide_eq_true_eq, decide_true, decide_false, Nat.zero_add, reduceIte, reduceCtorEq]
    rw [frzK_refL hpv]
    simp only [List.length_nil, Nat.add_zero] at hz
    exact q vs _ (hs.delp hp) (hL'.del hpa) ⟨hv, by omega⟩ (fun z => by rw [z] at hz; simp at hz; omega)
/-! ### how the law looks -/
theorem bools_map {α : Type} {f : α → Bool} : ∀ {l : List α}, bools (l.filterMap fun t => some (T.bl (f t))) = some (l.map f)
  | [] => rfl
  | a :: l => by simp only [List.filterMap_cons, bools, bools_map (l := l), Option.map_some, List.map_cons]
def sp_lstands : TSp := fun ds g Q _ => ∃ goal rs fs, ds = [.lst rs, .lst fs, goal] ∧ RsOk goal rs ∧ Fc goal ∧ (∀ t ∈ fs, Fc t) ∧ Q (.bl (stG goal rs fs)) g
theorem eis (w : PySem.Str) (hw : w = "is" ∨ w = "not") (fs : List T) (a : T) : decide (decide (a ∈ fs) = decide (w = PySem.Str.ofString "is")) = stF fs w a := by
  unfold stF
  rcases hw with rfl | rfl
  · rw [if_pos rfl, decide_eq_true (rfl : (PySem.Str.ofString "is") = PySem.Str.ofString "is")]
    cases decide (a ∈ fs) <;> rfl
  · rw [if_neg (by decide), eni]
    cases decide (a ∈ fs) <;> rfl
theorem p_law_stands (ds : List T) (g : G) (Q : K1) (h : sp_lstands ds g Q noX) : t__law_stands { nx := fun _ g' => Q .non g', rt := Q } (TL.startT N__law_stands ds) g := by
  obtain ⟨goal, rs, fs, rfl, hR, hg, hf, q⟩ := h
  unfold t__law_stands
  simp only [qFrz_k, frzK_lst, frzK_dct, frzK_tup, qSeq, qIfS, qOr, qNot, qAnd, qTB, qCB, qCons, qNil, qTup, qLstF, qVar, qC, sl, bIsi, c2, c1, m0, m1, m2, res_tup, res_lst', res_int, res_str, res_bl, res_non, res_dct, res_ty, tyN, isStr, TL.isInt, TL.isTup, TL.isBool, TL.isLst, isN, isB, qIf, qChain, cLe, cLt, cGt, cGe, cEq, cNe, cEqV, cIn, cNotIn, cIsN, cNotN, n2, bLen, lenV, bInt, bTup, qNext, qRet, qRetN, qDrop, qAndV, qOrV, qNotV, qOp, aIx, aSub, aMul, aMod, aFdiv, uNeg, riAdd, riSub, qCall, qAsg, gtName, gtTup, gtCons, gtNil, iLst, iTp, qFor, TL.startT, List.replicate, List.map_cons, List.map_nil, List.length_cons, List.length_nil, List.cons_append, List.nil_append, List.append_nil, List.set_cons_succ, List.set_cons_zero, List.getElem?_cons_zero, List.getElem?_cons_succ, List.getD_cons_zero, List.getD_cons_succ, List.headD_cons, Option.isSome_some, Bool.not_true, Bool.not_false, Bool.false_eq_true, if_true, if_false, true_and, and_true, decide_eq_true_eq, decide_true, decide_false, Nat.zero_add, reduceIte, reduceCtorEq, hg.res, cInV]
  refine ⟨hg.isD, fcs_isDs hf, ?_⟩
  simp only [any_mem hg hf]
  by_cases hin : goal ∈ fs
  · rw [if_pos (by simpa using hin)]
    have : stG goal rs fs = true := by unfold stG; rw [decide_eq_true hin, Bool.true_or]
    rw [this] at q
    exact q
  · rw [if_neg (by simpa using hin)]
    have e0 : stG goal rs fs = rs.any (ruH fs) := by unfold stG; rw [decide_eq_false hin, Bool.false_or]
    rw [e0] at q
    refine wFor_I (fun us δ g' => g' = g ∧ (∀ u ∈ us, u ∈ rs) ∧ us.any (ruH fs) = rs.any (ruH fs) ∧ ∃ x3 x4, δ = [some (.lst rs), some (.lst fs), some goal, x3, x4]) (fun _ _ _ _ => trivial) ?_ ?_ _ _ _ ⟨rfl, fun _ h => h, rfl, _, _, rfl⟩
    · rintro r us δ g' ⟨rfl, hm, ha, x3, x4, rfl⟩ K hK
      have hrl := hR.1 r (hm r (List.mem_cons_self ..))
      obtain ⟨ps, rfl, hp, hl⟩ := hrl.ex
      simp only [qFrz_k, frzK_lst, frzK_dct, frzK_tup, qSeq, qIfS, qOr, qNot, qAnd, qTB, qCB, qCons, qNil, qTup, qLstF, qVar, qC, sl, bIsi, c2, c1, m0, m1, m2, res_tup, res_lst', res_int, res_str, res_bl, res_non, res_dct, res_ty, tyN, isStr, TL.isInt, TL.isTup, TL.isBool, TL.isLst, isN, isB, qIf, qChain, cLe, cLt, cGt, cGe, cEq, cNe, cEqV, cIn, cNotIn, cIsN, cNotN, n2, bLen, lenV, bInt, bTup, qNext, qRet, qRetN, qDrop, qAndV, qOrV, qNotV, qOp, aIx, aSub, aMul, aMod, aFdiv, uNeg, riAdd, riSub, qCall, qAsg, gtName, gtTup, gtCons, gtNil, iLst, iTp, qFor, TL.startT, List.replicate, List.map_cons, List.map_nil, List.length_cons, List.length_nil, List.cons_append, List.nil_append, List.append_nil, List.set_cons_succ, List.set_cons_zero, List.getElem?_cons_zero, List.getElem?_cons_succ, List.getD_cons_zero, List.getD_cons_succ, List.headD_cons, Option.isSome_some, Bool.not_true, Bool.not_false, Bool.false_eq_true, if_true, if_false, true_and, and_true, decide_eq_true_eq, decide_true, decide_false, Nat.zero_add, reduceIte, reduceCtorEq]
      refine lcK (F := fun p => some (.bl (ptH fs p))) (ts := ps) (kp := yes) (fun R h => h) (fun _ _ => trivial) (fun t ht g'' K hs hk => ?_) (by rw [sizeLine_eq]; omega) ?_
      · obtain ⟨w, f, ⟨rfl, hw, _, _⟩, hff, _⟩ := hp t ht
        simp only [qFrz_k, frzK_lst, frzK_dct, frzK_tup, qSeq, qIfS, qOr, qNot, qAnd, qTB, qCB, qCons, qNil, qTup, qLstF, qVar, qC, sl, bIsi, c2, c1, m0, m1, m2, res_tup, res_lst', res_int, res_str, res_bl, res_non, res_dct, res_ty, tyN, isStr, TL.isInt, TL.isTup, TL.isBool, TL.isLst, isN, isB, qIf, qChain, cLe, cLt, cGt, cGe, cEq, cNe, cEqV, cIn, cNotIn, cIsN, cNotN, n2, bLen, lenV, bInt, bTup, qNext, qRet, qRetN, qDrop, qAndV, qOrV, qNotV, qOp, aIx, ixV, idx, aSub, aMul, aMod, aFdiv, uNeg, riAdd, riSub, qCall, qAsg, gtName, gtTup, gtCons, gtNil, iLst, iTp, qFor, TL.startT, List.replicate, List.map_cons, List.map_nil, List.length_cons, List.length_nil, List.cons_append, List.nil_append, List.append_nil, List.set_cons_succ, List.set_cons_zero, List.getElem?_cons_zero, List.getElem?_cons_succ, List.getD_cons_zero, List.getD_cons_succ, List.headD_cons, Option.isSome_some, Bool.not_true, Bool.not_false, Bool.false_eq_true, if_true, if_false, true_and, and_true, decide_eq_true_eq, decide_true, decide_false, Nat.zero_add, reduceIte, reduceCtorEq, wipeT, qYes, cInV, hff.res]
        refine ⟨hff.isD, fcs_isDs hf, ?_⟩
        rw [any_mem hff hf, eis w hw]
        exact hk
      · simp only [qFrz_k, frzK_lst, frzK_dct, frzK_tup, qSeq, qIfS, qOr, qNot, qAnd, qTB, qCB, qCons, qNil, qTup, qLstF, qVar, qC, sl, bIsi, c2, c1, m0, m1, m2, res_tup, res_lst', res_int, res_str, res_bl, res_non, res_dct, res_ty, tyN, isStr, TL.isInt, TL.isTup, TL.isBool, TL.isLst, isN, isB, qIf, qChain, cLe, cLt, cGt, cGe, cEq, cNe, cEqV, cIn, cNotIn, cIsN, cNotN, n2, bLen, lenV, bInt, bTup, qNext, qRet, qRetN, qDrop, qAndV, qOrV, qNotV, qOp, aIx, aSub, aMul, aMod, aFdiv, uNeg, riAdd, riSub, qCall, qAsg, gtName, gtTup, gtCons, gtNil, iLst, iTp, qFor, TL.startT, List.replicate, List.map_cons, List.map_nil, List.length_cons, List.length_nil, List.cons_append, List.nil_append, List.append_nil, List.set_cons_succ, List.set_cons_zero, List.getElem?_cons_zero, List.getElem?_cons_succ, List.getD_cons_zero, List.getD_cons_succ, List.headD_cons, Option.isSome_some, Bool.not_true, Bool.not_false, Bool.false_eq_true, if_true, if_false, true_and, and_true, decide_eq_true_eq, decide_true, decide_false, Nat.zero_add, reduceIte, reduceCtorEq, bAll, bools_map]
        have e : (List.map (ptH fs) ps).all (fun b => b) = ruH fs (ruT goal ps) := by
          rw [List.all_map]; rfl
        rw [e]
        rw [List.any_cons] at ha
        cases hq : ruH fs (ruT goal ps) with
        | true =>
          rw [hq, Bool.true_or] at ha
          rw [← ha] at q
          exact q
        | false =>
          rw [hq, Bool.false_or] at ha
          exact hK _ _ ⟨rfl, fun u hu => hm u (List.mem_cons_of_mem _ hu), ha, _, _, rfl⟩
    · rintro δ g' ⟨rfl, hm, ha, x3, x4, rfl⟩
      rw [List.any_nil] at ha
      rw [← ha] at q
      exact q
end K82
set_option Elab.async false
set_option linter.all false
set_option maxRecDepth 100000
set_option maxHeartbeats 4000000
namespace K82
open PySem PySem.Spec L2 PyProof.Rows TL
/-! ### parts -/
def partsN : Nat → List (List Nat)
  | 0 => [[]]
  | k + 1 => partsN k ++ (partsN k).map fun l => l ++ [k]
theorem partsN_len : ∀ k < 9, (partsN k).length ≤ 256 := by decide +kernel
theorem partsN_le : ∀ k < 9, ∀ l ∈ partsN k, l.length ≤ 8 := by decide +kernel
theorem plan_perm : ∀ k < 9, (partsN k).isPerm (planN k) = true := by decide +kernel
def lexN : List Nat → List Nat → Bool
  | [], [] => false
  | [], _ :: _ => true
  | _ :: _, [] => false
  | a :: x, b :: y => if a = b then lexN x y else decide (a < b)
def ltN (x y : List Nat) : Bool := if x.length = y.length then lexN x y else decide (x.length < y.length)
theorem plan_sorted : ∀ k < 9, (planN k).Pairwise fun x y => ltN y x = false := by decide +kernel
def kfP : T → T
  | .lst xs => .tup [.int (xs.length : Nat), .lst xs]
  | t => t
theorem kfP_ls (l : List Nat) : kfP (lsN l) = .tup [.int (l.length : Nat), lsN l] := by simp [kfP, lsN]
theorem ls_eqb : ∀ (x y : List Nat), eqbs (x.map fun (n : Nat) => T.int (n : Int)) (y.map fun (n : Nat) => T.int (n : Int)) = decide (x = y)
  | [], [] => rfl
  | [], _ :: _ => rfl
  | _ :: _, [] => rfl
  | a :: x, b :: y => by
    simp only [List.map_cons, eqbs, TL.eqb, ls_eqb x y]
    by_cases h : a = b
    · subst h; simp
    · have : ((a : Int) == (b : Int)) = false := beq_eq_false_iff_ne.mpr (by omega)
      rw [this]; simp [h]
theorem lex_ls : ∀ (x y : List Nat), lexO (x.map fun (n : Nat) => T.int (n : Int)) (y.map fun (n : Nat) => T.int (n : Int)) = some (lexN x y)
  | [], [] => rfl
  | [], _ :: _ => rfl
  | _ :: _, [] => rfl
  | a :: x, b :: y => by
    simp only [List.map_cons, lexO, TL.eqb, lexN]
    by_cases h : a = b
    · subst h; simp [lex_ls x y]
    · have : ((a : Int) == (b : Int)) = false := beq_eq_false_iff_ne.mpr (by omega)
      simp only [this, if_neg h]
      simp [ltO]
theorem lexN_self : ∀ x : List Nat, lexN x x = false
  | [] => rfl
  | a :: x => by simp [lexN, lexN_self x]
theorem lt_ls (x y : List Nat) : ltO (kfP (lsN x)) (kfP (lsN y)) = some (ltN x y) := by
  rw [kfP_ls, kfP_ls]
  simp only [ltO, lexO, TL.eqb, lsN, ls_eqb, lex_ls, ltN]
  by_cases h : x.length = y.length
  · rw [if_pos (by rw [beq_iff_eq]; omega), if_pos h]
    by_cases h2 : x = y
    · subst h2; simp [lexN_self]
    · simp [h2]
  · rw [if_neg (by rw [beq_iff_eq]; omega), if_neg h]
    simp
theorem nb_ls (l : List Nat) : nb (kfP (lsN l)) = true := by
  rw [kfP_ls]
  simp only [nb, nbs, lsN, Bool.true_and, Bool.and_true]
  exact nbs_of fun t ht => by
    obtain ⟨n, _, rfl⟩ := List.mem_map.mp ht
    rfl
theorem lsN_inj {x y : List Nat} (h : lsN x = lsN y) : x = y := by
  have := ls_eqb x y
  unfold lsN at h
  injection h with h
  rw [h] at this
  have e : eqbs (y.map fun (n : Nat) => T.int (n : Int)) (y.map fun (n : Nat) => T.int (n : Int)) = true := by rw [ls_eqb]; simp
  rw [e] at this
  exact of_decide_eq_true this.symm
theorem sorted_plan {k : Nat} (hk : k < 9) {ts : List T} (hp : ts.Perm ((partsN k).map lsN)) (hs : ts.Pairwise fun x y => ltB (kfP y) (kfP x) = false) : ts = (planN k).map lsN := by
  have hp2 : ts.Perm ((planN k).map lsN) := hp.trans ((List.isPerm_iff.mp (plan_perm k hk)).map lsN)
  refine List.Perm.eq_of_pairwise (le := fun x y => ltB (kfP y) (kfP x) = false) ?_ hs ?_ hp2
  · intro a b ha hb h1 h2
    have ha' : a ∈ (planN k).map lsN := hp2.mem_iff.mp ha
    obtain ⟨x, _, rfl⟩ := List.mem_map.mp ha'
    obtain ⟨y, _, rfl⟩ := List.mem_map.mp hb
    have e1 := ltO_B _ _ _ (nb_ls x) (nb_ls y) (lt_ls x y)
    have e2 := cmp_sw (kfP (lsN x)) (kfP (lsN y))
    rw [ltB_no] at h1 h2
    rcases e1 with ⟨e1, _, _⟩ | ⟨_, e3⟩
    · rw [eqb_nb _ _ (nb_ls x) (nb_ls y), decide_eq_true_eq, kfP_ls, kfP_ls] at e1
      injection e1 with e1
      injection e1 with _ e1
      injection e1
    · rw [e3] at e2 h2
      unfold ordB at e2 h2
      split at e2
      · rw [if_pos (by assumption)] at h2; exact absurd rfl h2
      · rw [e2] at h1; exact absurd rfl h1
  · rw [List.pairwise_map]
    refine (plan_sorted k hk).imp fun {x y} h => ?_
    exact ltO_ltB (nb_ls y) (nb_ls x) ((lt_ls y x).trans (by rw [h]))
abbrev tabL (g : G) (P : Addr) : Prop := TabAt g P 328 29 ((("_law_parts" : PySem.Str) ++ ".<locals>.") ++ "<lambda>")
def sp_parts (P : Addr) : TSp := fun ds g Q _ => ∃ n : Nat, ds = [.int (n : Int)] ∧ n < 9 ∧ tabL g P ∧ Q (.lst ((planN n).map lsN)) g
theorem p_parts (P : Addr) (ds : List T) (g : G) (Q : K1) (h : sp_parts P ds g Q noX) : t__law_parts P { nx := fun _ g' => Q .non g', rt := Q } (TL.startT N__law_parts ds) g := by
  obtain ⟨n, rfl, hn, tb, q⟩ := h
  unfold t__law_parts
  simp only [qFrz_k, frzK_lst, frzK_dct, frzK_tup, qSeq, qIfS, qOr, qNot, qAnd, qTB, qCB, qCons, qNil, qTup, qLstF, qVar, qC, sl, bIsi, c2, c1, m0, m1, m2, res_tup, res_lst', res_int, res_str, res_bl, res_non, res_dct, res_ty, tyN, isStr, TL.isInt, TL.isTup, TL.isBool, TL.isLst, isN, isB, qIf, qChain, cLe, cLt, cGt, cGe, cEq, cNe, cEqV, cIn, cNotIn, cIsN, cNotN, n2, bLen, lenV, bInt, bTup, qNext, qRet, qRetN, qDrop, qAndV, qOrV, qNotV, qOp, aIx, aSub, aMul, aMod, aFdiv, uNeg, riAdd, riSub, qCall, qAsg, gtName, gtTup, gtCons, gtNil, iLst, iTp, qFor, TL.startT, List.replicate, List.map_cons, List.map_nil, List.length_cons, List.length_nil, List.cons_append, List.nil_append, List.append_nil, List.set_cons_succ, List.set_cons_zero, List.getElem?_cons_zero, List.getElem?_cons_succ, List.getD_cons_zero, List.getD_cons_succ, List.headD_cons, Option.isSome_some, Bool.not_true, Bool.not_false, Bool.false_eq_true, if_true, if_false, true_and, and_true, decide_eq_true_eq, decide_true, decide_false, Nat.zero_add, reduceIte, reduceCtorEq, TL.iRng1]
  refine ⟨Nat.zero_le _, by rw [sizeLine_eq]; omega, by omega, by omega, ?_⟩
  rw [Int.toNat_natCast, range0]
  refine wFor_I (fun us δ g' => g' = g ∧ ∃ k x2, k ≤ n ∧ us = ((List.range n).drop k).map (fun (i : Nat) => T.int (i : Int)) ∧ δ = [some (.int (n : Int)), some (.lst ((partsN k).map lsN)), x2, none]) (fun _ _ _ _ => trivial) ?_ ?_ _ _ _ ⟨rfl, 0, _, Nat.zero_le _, rfl, rfl⟩
  · rintro t us δ g' ⟨rfl, k, x2, hkn, hus, rfl⟩ K hK
    have hk : k < n := by
      refine Nat.lt_of_not_le fun z => ?_
      rw [List.drop_of_length_le (by simpa using z)] at hus
      cases hus
    have hdr : (List.range n).drop k = k :: (List.range n).drop (k + 1) := by
      rw [List.drop_eq_getElem_cons (by simpa using hk)]
      simp
    rw [hdr, List.map_cons] at hus
    injection hus with h1 h2
    subst h1 h2
    have hl := partsN_len k (by omega)
    simp only [qFrz_k, frzK_lst, frzK_dct, frzK_tup, qSeq, qIfS, qOr, qNot, qAnd, qTB, qCB, qCons, qNil, qTup, qLstF, qVar, qC, sl, bIsi, c2, c1, m0, m1, m2, res_tup, res_lst', res_int, res_str, res_bl, res_non, res_dct, res_ty, tyN, isStr, TL.isInt, TL.isTup, TL.isBool, TL.isLst, isN, isB, qIf, qChain, cLe, cLt, cGt, cGe, cEq, cNe, cEqV, cIn, cNotIn, cIsN, cNotN, n2, bLen, lenV, bInt, bTup, qNext, qRet, qRetN, qDrop, qAndV, qOrV, qNotV, qOp, aIx, aSub, aMul, aMod, aFdiv, uNeg, riAdd, riSub, qCall, qAsg, gtName, gtTup, gtCons, gtNil, iLst, iTp, qFor, TL.startT, List.replicate, List.map_cons, List.map_nil, List.length_cons, List.length_nil, List.cons_append, List.nil_append, List.append_nil, List.set_cons_succ, List.set_cons_zero, List.getElem?_cons_zero, List.getElem?_cons_succ, List.getD_cons_zero, List.getD_cons_succ, List.headD_cons, Option.isSome_some, Bool.not_true, Bool.not_false, Bool.false_eq_true, if_true, if_false, true_and, and_true, decide_eq_true_eq, decide_true, decide_false, Nat.zero_add, reduceIte, reduceCtorEq]
    refine lcK (F := fun t => match t with | .lst xs => some (.lst (xs ++ [.int (k : Int)])) | _ => none) (ts := (partsN k).map lsN) (kp := yes) (fun R h => h) (fun _ _ => trivial) (fun t ht g'' K2 hs hk' => ?_) (by rw [sizeLine_eq, List.length_map]; omega) ?_
    · obtain ⟨l, hl', rfl⟩ := List.mem_map.mp ht
      have hl8 := partsN_le k (by omega) l hl'
      simp only [qFrz_k, frzK_lst, frzK_dct, frzK_tup, qSeq, qIfS, qOr, qNot, qAnd, qTB, qCB, qCons, qNil, qTup, qLstF, qVar, qC, sl, bIsi, c2, c1, m0, m1, m2, res_tup, res_lst', res_int, res_str, res_bl, res_non, res_dct, res_ty, tyN, isStr, TL.isInt, TL.isTup, TL.isBool, TL.isLst, isN, isB, qIf, qChain, cLe, cLt, cGt, cGe, cEq, cNe, cEqV, cIn, cNotIn, cIsN, cNotN, n2, bLen, lenV, bInt, bTup, qNext, qRet, qRetN, qDrop, qAndV, qOrV, qNotV, qOp, aIx, aSub, aMul, aMod, aFdiv, uNeg, riAdd, riSub, qCall, qAsg, gtName, gtTup, gtCons, gtNil, iLst, iTp, qFor, TL.startT, List.replicate, List.map_cons, List.map_nil, List.length_cons, List.length_nil, List.cons_append, List.nil_append, List.append_nil, List.set_cons_succ, List.set_cons_zero, List.getElem?_cons_zero, List.getElem?_cons_succ, List.getD_cons_zero, List.getD_cons_succ, List.headD_cons, Option.isSome_some, Bool.not_true, Bool.not_false, Bool.false_eq_true, if_true, if_false, true_and, and_true, decide_eq_true_eq, decide_true, decide_false, Nat.zero_add, reduceIte, reduceCtorEq, wipeT, qYes, aAdd, lsN]
      refine ⟨by rw [sizeLine_eq]; omega, by rw [sizeLine_eq, List.length_map]; omega, fun p hp => ?_⟩
      rw [frzK_putL hp]
      exact hk'
    · have e : ((partsN k).map lsN).filterMap (fun t => match t with | .lst xs => some (.lst (xs ++ [.int (k : Int)])) | _ => none) = ((partsN k).map fun l => l ++ [k]).map lsN := by
        generalize partsN k = ls
        induction ls with
        | nil => rfl
        | cons l ls ih => simp only [List.map_cons, List.filterMap_cons, ih]; simp [lsN]
      rw [e]
      simp only [aAdd, res_lst']
      refine ⟨by rw [sizeLine_eq]; simp only [List.length_map]; omega, fun p hp => ?_⟩
      rw [frzK_putL hp]
      rw [← List.map_append]
      exact hK _ _ ⟨rfl, k + 1, _, hk, rfl, rfl⟩
  · rintro δ g' ⟨rfl, k, x2, hkn, hus, rfl⟩
    have hk : k = n := by
      refine Nat.le_antisymm hkn (Nat.le_of_not_lt fun z => ?_)
      have := congrArg List.length hus
      simp at this
      omega
    subst hk
    simp only [qFrz_k, frzK_lst, frzK_dct, frzK_tup, qSeq, qIfS, qOr, qNot, qAnd, qTB, qCB, qCons, qNil, qTup, qLstF, qVar, qC, sl, bIsi, c2, c1, m0, m1, m2, res_tup, res_lst', res_int, res_str, res_bl, res_non, res_dct, res_ty, tyN, isStr, TL.isInt, TL.isTup, TL.isBool, TL.isLst, isN, isB, qIf, qChain, cLe, cLt, cGt, cGe, cEq, cNe, cEqV, cIn, cNotIn, cIsN, cNotN, n2, bLen, lenV, bInt, bTup, qNext, qRet, qRetN, qDrop, qAndV, qOrV, qNotV, qOp, aIx, aSub, aMul, aMod, aFdiv, uNeg, riAdd, riSub, qCall, qAsg, gtName, gtTup, gtCons, gtNil, iLst, iTp, qFor, TL.startT, List.replicate, List.map_cons, List.map_nil, List.length_cons, List.length_nil, List.cons_append, List.nil_append, List.append_nil, List.set_cons_succ, List.set_cons_zero, List.getElem?_cons_zero, List.getElem?_cons_succ, List.getD_cons_zero, List.getD_cons_succ, List.headD_cons, Option.isSome_some, Bool.not_true, Bool.not_false, Bool.false_eq_true, if_true, if_false, true_and, and_true, decide_eq_true_eq, decide_true, decide_false, Nat.zero_add, reduceIte, reduceCtorEq, qLamSort]
    refine ⟨tb, (partsN k).map lsN, kfP, 10, rfl, by have := partsN_len k hn; rw [sizeLine_eq, List.length_map]; omega, fun f F hf t ht Q' hq => ?_, ⟨fun t ht => ?_, fun _ t ht u hu => ?_, fun _ t ht => ?_⟩, by omega, fun ts' p hp hs hpn => ?_⟩
    · obtain ⟨l, hl', rfl⟩ := List.mem_map.mp ht
      have e : startC N__law_parts_lam (lsN l) (caps [some (.int (k : Int)), some (.lst ((partsN k).map lsN)), x2, none] []) = [some (lsN l)] := rfl
      rw [e]
      rw [kfP_ls] at hq
      simp only [qFrz_k, frzK_lst, frzK_dct, frzK_tup, qSeq, qIfS, qOr, qNot, qAnd, qTB, qCB, qCons, qNil, qTup, qLstF, qVar, qC, sl, bIsi, c2, c1, m0, m1, m2, res_tup, res_lst', res_int, res_str, res_bl, res_non, res_dct, res_ty, tyN, isStr, TL.isInt, TL.isTup, TL.isBool, TL.isLst, isN, isB, qIf, qChain, cLe, cLt, cGt, cGe, cEq, cNe, cEqV, cIn, cNotIn, cIsN, cNotN, n2, bLen, lenV, bInt, bTup, qNext, qRet, qRetN, qDrop, qAndV, qOrV, qNotV, qOp, aIx, aSub, aMul, aMod, aFdiv, uNeg, riAdd, riSub, qCall, qAsg, gtName, gtTup, gtCons, gtNil, iLst, iTp, qFor, TL.startT, List.replicate, List.map_cons, List.map_nil, List.length_cons, List.length_nil, List.cons_append, List.nil_append, List.append_nil, List.set_cons_succ, List.set_cons_zero, List.getElem?_cons_zero, List.getElem?_cons_succ, List.getD_cons_zero, List.getD_cons_succ, List.headD_cons, Option.isSome_some, Bool.not_true, Bool.not_false, Bool.false_eq_true, if_true, if_false, true_and, and_true, decide_eq_true_eq, decide_true, decide_false, Nat.zero_add, reduceIte, reduceCtorEq, lsN, List.length_map]
      exact ⟨by rw [sizeLine_eq]; omega, hq⟩
    · obtain ⟨l, hl', rfl⟩ := List.mem_map.mp ht
      refine ⟨?_, nb_ls l⟩
      rw [kfP_ls]
      simp only [isDn, isDs, lsN, Bool.true_and, Bool.and_true]
      exact isDs_of fun t ht => by
        obtain ⟨n, _, rfl⟩ := List.mem_map.mp ht
        rfl
    · obtain ⟨l, hl', rfl⟩ := List.mem_map.mp ht
      obtain ⟨m, hm', rfl⟩ := List.mem_map.mp hu
      exact ⟨_, lt_ls l m⟩
    · obtain ⟨l, hl', rfl⟩ := List.mem_map.mp ht
      rw [kfP_ls]
      exact ⟨_, _, rfl⟩
    · rw [frzK_putL hpn, sorted_plan hn hp hs]
      exact q
end K82
set_option Elab.async false
set_option linter.all false
set_option maxRecDepth 100000
set_option maxHeartbeats 4000000
namespace K82
open PySem PySem.Spec L2 PyProof.Rows TL
def tpN (l : List Nat) : T := .tup (l.map fun (n : Nat) => T.int (n : Int))
theorem tpN_key (l : List Nat) : tupK (tpN l) = true := by
  have h : ∀ l : List Nat, ∃ ks, nkOf.nks (l.map fun (n : Nat) => T.int (n : Int)) = some ks ∧ NestedKey.depthAll ks ≤ 1 := fun l => nks_of fun t ht => by
    obtain ⟨n, _, rfl⟩ := List.mem_map.mp ht
    exact ⟨.num n, rfl, by simp [NestedKey.depth]⟩
  obtain ⟨ks, e, hd⟩ := h l
  simp only [tpN, tupK, nkOf, e, Option.map_some]
  refine decide_eq_true ?_
  simp only [NestedKey.depth]
  omega
theorem tpN_inj {x y : List Nat} (h : tpN x = tpN y) : x = y := by
  unfold tpN at h
  injection h with h
  exact lsN_inj (by unfold lsN; rw [h])
theorem find_congr {α : Type} {p q : α → Bool} : ∀ {l : List α}, (∀ x ∈ l, p x = q x) → l.find? p = l.find? q
  | [], _ => rfl
  | a :: l, h => by
    have e := h a (List.mem_cons_self ..)
    have ih := find_congr (l := l) fun x hx => h x (List.mem_cons_of_mem _ hx)
    rw [List.find?_cons, List.find?_cons, e, ih]
def dueT (ms : List T) : Option (List Nat) → T
  | none => .non
  | some p => .lst (pickT ms p)
def pkF (ms : List T) : T → Option T
  | .int i => ms[i.toNat]?
  | _ => none
theorem pick_ls2 {ms : List T} {l : List Nat} : (l.map fun (n : Nat) => T.int (n : Int)).filterMap (pkF ms) = pickT ms l := by
  rw [List.filterMap_map]
  rfl
theorem pick_ls {ms : List T} {l : List Nat} : (l.map fun (n : Nat) => T.int (n : Int)).filterMap (fun t => match t with | .int i => ms[i.toNat]? | _ => none) = pickT ms l := by
  rw [List.filterMap_map]
  rfl
theorem plan_lt : ∀ m < 9, ∀ l ∈ planN m, (∀ x ∈ l, x < m) ∧ l.length ≤ 8 := by decide +kernel
def sp_due (P : Addr) : TSp := fun ds g Q _ => ∃ sd kvs ms wish, ∃ st : List Nat → Bool, ds = [.ref sd, .lst ms, .bl wish] ∧ g sd = some (.dct kvs) ∧ (kvs.all fun p => tupK p.1) = true ∧ (∀ p ∈ planN ms.length, look kvs (tpN p) = some (.bl (st p))) ∧ ms.length ≤ 8 ∧ tabL g P ∧
  Q (dueT ms ((planN ms.length).find? fun p => decide (st p = wish))) g
theorem p_due (P : Addr) (ds : List T) (g : G) (Q : K1) (h : sp_due P ds g Q noX) : t__law_due (sp_parts P) { nx := fun _ g' => Q .non g', rt := Q } (TL.startT N__law_due ds) g := by
  obtain ⟨sd, kvs, ms, wish, st, rfl, hd, hk, hl, hm8, tb, q⟩ := h
  unfold t__law_due
  simp only [qFrz_k, frzK_lst, frzK_dct, frzK_tup, qSeq, qIfS, qOr, qNot, qAnd, qTB, qCB, qCons, qNil, qTup, qLstF, qVar, qC, sl, bIsi, c2, c1, m0, m1, m2, res_tup, res_lst', res_int, res_str, res_bl, res_non, res_dct, res_ty, tyN, isStr, TL.isInt, TL.isTup, TL.isBool, TL.isLst, isN, isB, qIf, qChain, cLe, cLt, cGt, cGe, cEq, cNe, cEqV, cIn, cNotIn, cIsN, cNotN, n2, bLen, lenV, bInt, bTup, qNext, qRet, qRetN, qDrop, qAndV, qOrV, qNotV, qOp, aIx, aSub, aMul, aMod, aFdiv, uNeg, riAdd, riSub, qCall, qAsg, gtName, gtTup, gtCons, gtNil, iLst, iTp, qFor, TL.startT, List.replicate, List.map_cons, List.map_nil, List.length_cons, List.length_nil, List.cons_append, List.nil_append, List.append_nil, List.set_cons_succ, List.set_cons_zero, List.getElem?_cons_zero, List.getElem?_cons_succ, List.getD_cons_zero, List.getD_cons_succ, List.headD_cons, Option.isSome_some, Bool.not_true, Bool.not_false, Bool.false_eq_true, if_true, if_false, true_and, and_true, decide_eq_true_eq, decide_true, decide_false, Nat.zero_add, reduceIte, reduceCtorEq]
  refine ⟨ms.length, rfl, by omega, tb, ?_⟩
  refine wFor_I (fun us δ g' => g' = g ∧ ∃ ls x3, us = ls.map lsN ∧ (∀ l ∈ ls, l ∈ planN ms.length) ∧ δ = [some (.ref sd), some (.lst ms), some (.bl wish), x3, none] ∧ ls.find? (fun p => decide (st p = wish)) = (planN ms.length).find? fun p => decide (st p = wish)) (fun _ _ _ _ => trivial) ?_ ?_ _ _ _ ⟨rfl, _, _, rfl, fun _ h => h, rfl, rfl⟩
  · rintro t us δ g' ⟨rfl, ls, x3, hus, hls, rfl, hF⟩ K hK
    cases ls with
    | nil => cases hus
    | cons l ls =>
      simp only [List.map_cons, List.cons.injEq] at hus
      obtain ⟨rfl, rfl⟩ := hus
      have hlm := hls l (List.mem_cons_self ..)
      obtain ⟨hlt, hl8⟩ := plan_lt ms.length (by omega) l hlm
      simp only [qFrz_k, frzK_lst, frzK_dct, frzK_tup, qSeq, qIfS, qOr, qNot, qAnd, qTB, qCB, qCons, qNil, qTup, qLstF, qVar, qC, sl, bIsi, c2, c1, m0, m1, m2, res_tup, res_lst', res_int, res_str, res_bl, res_non, res_dct, res_ty, tyN, isStr, TL.isInt, TL.isTup, TL.isBool, TL.isLst, isN, isB, qIf, qChain, cLe, cLt, cGt, cGe, cEq, cNe, cEqV, cIn, cNotIn, cIsN, cNotN, n2, bLen, lenV, bInt, bTup, qNext, qRet, qRetN, qDrop, qAndV, qOrV, qNotV, qOp, aIx, aSub, aMul, aMod, aFdiv, uNeg, riAdd, riSub, qCall, qAsg, gtName, gtTup, gtCons, gtNil, iLst, iTp, qFor, TL.startT, List.replicate, List.map_cons, List.map_nil, List.length_cons, List.length_nil, List.cons_append, List.nil_append, List.append_nil, List.set_cons_succ, List.set_cons_zero, List.getElem?_cons_zero, List.getElem?_cons_succ, List.getD_cons_zero, List.getD_cons_succ, List.headD_cons, Option.isSome_some, Bool.not_true, Bool.not_false, Bool.false_eq_true, if_true, if_false, true_and, and_true, decide_eq_true_eq, decide_true, decide_false, Nat.zero_add, reduceIte, reduceCtorEq, res_refD hd, lsN]
      have e : ∀ k : T → Prop, k (.bl (st l)) → ixV (.dct kvs) (.tup (l.map fun (n : Nat) => T.int (n : Int))) k := fun k h => by
        refine ⟨kOk_t (tpN_key l) hk, ?_⟩
        have e2 := hl l hlm
        unfold tpN at e2
        simp only [e2]
        exact h
      refine e _ ?_
      simp only [qFrz_k, frzK_lst, frzK_dct, frzK_tup, qSeq, qIfS, qOr, qNot, qAnd, qTB, qCB, qCons, qNil, qTup, qLstF, qVar, qC, sl, bIsi, c2, c1, m0, m1, m2, res_tup, res_lst', res_int, res_str, res_bl, res_non, res_dct, res_ty, tyN, isStr, TL.isInt, TL.isTup, TL.isBool, TL.isLst, isN, isB, qIf, qChain, cLe, cLt, cGt, cGe, cEq, cNe, cEqV, cIn, cNotIn, cIsN, cNotN, n2, bLen, lenV, bInt, bTup, qNext, qRet, qRetN, qDrop, qAndV, qOrV, qNotV, qOp, aIx, aSub, aMul, aMod, aFdiv, uNeg, riAdd, riSub, qCall, qAsg, gtName, gtTup, gtCons, gtNil, iLst, iTp, qFor, TL.startT, List.replicate, List.map_cons, List.map_nil, List.length_cons, List.length_nil, List.cons_append, List.nil_append, List.append_nil, List.set_cons_succ, List.set_cons_zero, List.getElem?_cons_zero, List.getElem?_cons_succ, List.getD_cons_zero, List.getD_cons_succ, List.headD_cons, Option.isSome_some, Bool.not_true, Bool.not_false, Bool.false_eq_true, if_true, if_false, true_and, and_true, decide_eq_true_eq, decide_true, decide_false, Nat.zero_add, reduceIte, reduceCtorEq]
      by_cases hw : st l = wish
      · rw [if_pos hw]
        rw [← hF, List.find?_cons_of_pos (by simpa using hw)] at q
        refine lcK (F := fun t => match t with | .int i => ms[i.toNat]? | _ => none) (ts := l.map fun (n : Nat) => T.int (n : Int)) (kp := yes) (fun R h => h) (fun _ _ => trivial) (fun t ht g'' K hs' hk' => ?_) (by rw [sizeLine_eq, List.length_map]; omega) ?_
        · obtain ⟨n, hn, rfl⟩ := List.mem_map.mp ht
          have hn' := hlt n hn
          have e1 : ms[n]? = some ms[n] := List.getElem?_eq_getElem hn'
          simp only [qFrz_k, frzK_lst, frzK_dct, frzK_tup, qSeq, qIfS, qOr, qNot, qAnd, qTB, qCB, qCons, qNil, qTup, qLstF, qVar, qC, sl, bIsi, c2, c1, m0, m1, m2, res_tup, res_lst', res_int, res_str, res_bl, res_non, res_dct, res_ty, tyN, isStr, TL.isInt, TL.isTup, TL.isBool, TL.isLst, isN, isB, qIf, qChain, cLe, cLt, cGt, cGe, cEq, cNe, cEqV, cIn, cNotIn, cIsN, cNotN, n2, bLen, lenV, bInt, bTup, qNext, qRet, qRetN, qDrop, qAndV, qOrV, qNotV, qOp, aIx, ixV, idx, aSub, aMul, aMod, aFdiv, uNeg, riAdd, riSub, qCall, qAsg, gtName, gtTup, gtCons, gtNil, iLst, iTp, qFor, TL.startT, List.replicate, List.map_cons, List.map_nil, List.length_cons, List.length_nil, List.cons_append, List.nil_append, List.append_nil, List.set_cons_succ, List.set_cons_zero, List.getElem?_cons_zero, List.getElem?_cons_succ, List.getD_cons_zero, List.getD_cons_succ, List.headD_cons, Option.isSome_some, Bool.not_true, Bool.not_false, Bool.false_eq_true, if_true, if_false, true_and, and_true, decide_eq_true_eq, decide_true, decide_false, Nat.zero_add, reduceIte, reduceCtorEq, wipeT, qYes, ↓idx_nat, e1]
          simp only [Int.toNat_natCast, e1] at hk'
          exact hk'
        · rw [pick_ls]
          exact q
      · rw [if_neg hw]
        refine hK _ _ ⟨rfl, ls, _, rfl, fun u hu => hls u (List.mem_cons_of_mem _ hu), rfl, ?_⟩
        rw [← hF, List.find?_cons_of_neg (by simpa using hw)]
  · rintro δ g' ⟨rfl, ls, x3, hus, hls, rfl, hF⟩
    cases ls with
    | cons l ls => cases hus
    | nil =>
      rw [← hF] at q
      exact q
/-- what mend told is what is due -/
def sp_same : TSp := fun ds g Q _ => (ds = [.non, .non] ∧ Q (.bl true) g) ∨ ∃ p ts, ds = [.ref p, .lst ts] ∧ g p = some (.lst ts) ∧ (∀ t ∈ ts, Fc t) ∧ ts.length ≤ 100 ∧ Q (.bl true) g
theorem eqbs_self {ts : List T} (h : ∀ t ∈ ts, nb t = true) : eqbs ts ts = true := by
  rw [eqbs_nb _ _ (nbs_of h) (nbs_of h)]
  simp
theorem all_tups {ts : List T} : (ts.filterMap fun t => some (T.bl true)) = ts.map fun _ => T.bl true := by
  rw [List.filterMap_eq_map']
theorem p_same (ds : List T) (g : G) (Q : K1) (h : sp_same ds g Q noX) : t__law_same { nx := fun _ g' => Q .non g', rt := Q } (TL.startT N__law_same ds) g := by
  rcases h with ⟨rfl, q⟩ | ⟨p, ts, rfl, hp, hf, hl, q⟩
  · unfold t__law_same
    simp only [qFrz_k, frzK_lst, frzK_dct, frzK_tup, qSeq, qIfS, qOr, qNot, qAnd, qTB, qCB, qCons, qNil, qTup, qLstF, qVar, qC, sl, bIsi, c2, c1, m0, m1, m2, res_tup, res_lst', res_int, res_str, res_bl, res_non, res_dct, res_ty, tyN, isStr, TL.isInt, TL.isTup, TL.isBool, TL.isLst, isN, isB, qIf, qChain, cLe, cLt, cGt, cGe, cEq, cNe, cEqV, cIn, cNotIn, cIsN, cNotN, n2, bLen, lenV, bInt, bTup, qNext, qRet, qRetN, qDrop, qAndV, qOrV, qNotV, qOp, aIx, aSub, aMul, aMod, aFdiv, uNeg, riAdd, riSub, qCall, qAsg, gtName, gtTup, gtCons, gtNil, iLst, iTp, qFor, TL.startT, List.replicate, List.map_cons, List.map_nil, List.length_cons, List.length_nil, List.cons_append, List.nil_append, List.append_nil, List.set_cons_succ, List.set_cons_zero, List.getElem?_cons_zero, List.getElem?_cons_succ, List.getD_cons_zero, List.getD_cons_succ, List.headD_cons, Option.isSome_some, Bool.not_true, Bool.not_false, Bool.false_eq_true, if_true, if_false, true_and, and_true, decide_eq_true_eq, decide_true, decide_false, Nat.zero_add, reduceIte, reduceCtorEq]
    exact q
  · unfold t__law_same
    simp only [qFrz_k, frzK_lst, frzK_dct, frzK_tup, qSeq, qIfS, qOr, qNot, qAnd, qTB, qCB, qCons, qNil, qTup, qLstF, qVar, qC, sl, bIsi, c2, c1, m0, m1, m2, res_tup, res_lst', res_int, res_str, res_bl, res_non, res_dct, res_ty, tyN, isStr, TL.isInt, TL.isTup, TL.isBool, TL.isLst, isN, isB, qIf, qChain, cLe, cLt, cGt, cGe, cEq, cNe, cEqV, cIn, cNotIn, cIsN, cNotN, n2, bLen, lenV, bInt, bTup, qNext, qRet, qRetN, qDrop, qAndV, qOrV, qNotV, qOp, aIx, aSub, aMul, aMod, aFdiv, uNeg, riAdd, riSub, qCall, qAsg, gtName, gtTup, gtCons, gtNil, iLst, iTp, qFor, TL.startT, List.replicate, List.map_cons, List.map_nil, List.length_cons, List.length_nil, List.cons_append, List.nil_append, List.append_nil, List.set_cons_succ, List.set_cons_zero, List.getElem?_cons_zero, List.getElem?_cons_succ, List.getD_cons_zero, List.getD_cons_succ, List.headD_cons, Option.isSome_some, Bool.not_true, Bool.not_false, Bool.false_eq_true, if_true, if_false, true_and, and_true, decide_eq_true_eq, decide_true, decide_false, Nat.zero_add, reduceIte, reduceCtorEq, res_refL hp]
    have e : isDn 40 (.lst ts) = true := by
      simp only [isDn]
      exact isDs_of fun t ht => th_isDn _ _ _ (hf t ht).th (by omega)
    refine ⟨e, e, ?_⟩
    have e2 : TL.eqb (.lst ts) (.lst ts) = true := by
      simp only [TL.eqb]
      exact eqbs_self fun t ht => th_nb _ _ (hf t ht).th
    rw [e2]
    simp only [qFrz_k, frzK_lst, frzK_dct, frzK_tup, qSeq, qIfS, qOr, qNot, qAnd, qTB, qCB, qCons, qNil, qTup, qLstF, qVar, qC, sl, bIsi, c2, c1, m0, m1, m2, res_tup, res_lst', res_int, res_str, res_bl, res_non, res_dct, res_ty, tyN, isStr, TL.isInt, TL.isTup, TL.isBool, TL.isLst, isN, isB, qIf, qChain, cLe, cLt, cGt, cGe, cEq, cNe, cEqV, cIn, cNotIn, cIsN, cNotN, n2, bLen, lenV, bInt, bTup, qNext, qRet, qRetN, qDrop, qAndV, qOrV, qNotV, qOp, aIx, aSub, aMul, aMod, aFdiv, uNeg, riAdd, riSub, qCall, qAsg, gtName, gtTup, gtCons, gtNil, iLst, iTp, qFor, TL.startT, List.replicate, List.map_cons, List.map_nil, List.length_cons, List.length_nil, List.cons_append, List.nil_append, List.append_nil, List.set_cons_succ, List.set_cons_zero, List.getElem?_cons_zero, List.getElem?_cons_succ, List.getD_cons_zero, List.getD_cons_succ, List.headD_cons, Option.isSome_some, Bool.not_true, Bool.not_false, Bool.false_eq_true, if_true, if_false, true_and, and_true, decide_eq_true_eq, decide_true, decide_false, Nat.zero_add, reduceIte, reduceCtorEq, hp]
    refine lcK (F := fun _ => some (.bl true)) (ts := ts) (kp := fun g => g p = some (.lst ts)) (fun R h => by simp only [iLst, qVar, sl, hp]; exact h) (fun g' hs => hs _ _ hp) (fun t ht g'' K hs' hk' => ?_) (by rw [sizeLine_eq]; omega) ?_
    · obtain ⟨us, rfl⟩ := (hf t ht).tup
      simp only [qFrz_k, frzK_lst, frzK_dct, frzK_tup, qSeq, qIfS, qOr, qNot, qAnd, qTB, qCB, qCons, qNil, qTup, qLstF, qVar, qC, sl, bIsi, c2, c1, m0, m1, m2, res_tup, res_lst', res_int, res_str, res_bl, res_non, res_dct, res_ty, tyN, isStr, TL.isInt, TL.isTup, TL.isBool, TL.isLst, isN, isB, qIf, qChain, cLe, cLt, cGt, cGe, cEq, cNe, cEqV, cIn, cNotIn, cIsN, cNotN, n2, bLen, lenV, bInt, bTup, qNext, qRet, qRetN, qDrop, qAndV, qOrV, qNotV, qOp, aIx, aSub, aMul, aMod, aFdiv, uNeg, riAdd, riSub, qCall, qAsg, gtName, gtTup, gtCons, gtNil, iLst, iTp, qFor, TL.startT, List.replicate, List.map_cons, List.map_nil, List.length_cons, List.length_nil, List.cons_append, List.nil_append, List.append_nil, List.set_cons_succ, List.set_cons_zero, List.getElem?_cons_zero, List.getElem?_cons_succ, List.getD_cons_zero, List.getD_cons_succ, List.headD_cons, Option.isSome_some, Bool.not_true, Bool.not_false, Bool.false_eq_true, if_true, if_false, true_and, and_true, decide_eq_true_eq, decide_true, decide_false, Nat.zero_add, reduceIte, reduceCtorEq, wipeT, qYes]
      exact hk'
    · simp only [bAll, qFrz_k, frzK_lst, frzK_dct, frzK_tup, qSeq, qIfS, qOr, qNot, qAnd, qTB, qCB, qCons, qNil, qTup, qLstF, qVar, qC, sl, bIsi, c2, c1, m0, m1, m2, res_tup, res_lst', res_int, res_str, res_bl, res_non, res_dct, res_ty, tyN, isStr, TL.isInt, TL.isTup, TL.isBool, TL.isLst, isN, isB, qIf, qChain, cLe, cLt, cGt, cGe, cEq, cNe, cEqV, cIn, cNotIn, cIsN, cNotN, n2, bLen, lenV, bInt, bTup, qNext, qRet, qRetN, qDrop, qAndV, qOrV, qNotV, qOp, aIx, aSub, aMul, aMod, aFdiv, uNeg, riAdd, riSub, qCall, qAsg, gtName, gtTup, gtCons, gtNil, iLst, iTp, qFor, TL.startT, List.replicate, List.map_cons, List.map_nil, List.length_cons, List.length_nil, List.cons_append, List.nil_append, List.append_nil, List.set_cons_succ, List.set_cons_zero, List.getElem?_cons_zero, List.getElem?_cons_succ, List.getD_cons_zero, List.getD_cons_succ, List.headD_cons, Option.isSome_some, Bool.not_true, Bool.not_false, Bool.false_eq_true, if_true, if_false, true_and, and_true, decide_eq_true_eq, decide_true, decide_false, Nat.zero_add, reduceIte, reduceCtorEq, all_true]
      simpa using q
theorem p_asked (P : Addr) (ds : List T) (g : G) (Q : K1) (h : sp_mend P ds g Q noX) : t__law_asked (sp_mend P) { nx := fun _ g' => Q .non g', rt := Q } (TL.startT N__law_asked ds) g := by
  obtain ⟨goal, rs, fs, ms, wish, rfl, h⟩ := h
  unfold t__law_asked
  simp only [qFrz_k, frzK_lst, frzK_dct, frzK_tup, qSeq, qIfS, qOr, qNot, qAnd, qTB, qCB, qCons, qNil, qTup, qLstF, qVar, qC, sl, bIsi, c2, c1, m0, m1, m2, res_tup, res_lst', res_int, res_str, res_bl, res_non, res_dct, res_ty, tyN, isStr, TL.isInt, TL.isTup, TL.isBool, TL.isLst, isN, isB, qIf, qChain, cLe, cLt, cGt, cGe, cEq, cNe, cEqV, cIn, cNotIn, cIsN, cNotN, n2, bLen, lenV, bInt, bTup, qNext, qRet, qRetN, qDrop, qAndV, qOrV, qNotV, qOp, aIx, aSub, aMul, aMod, aFdiv, uNeg, riAdd, riSub, qCall, qAsg, gtName, gtTup, gtCons, gtNil, iLst, iTp, qFor, TL.startT, List.replicate, List.map_cons, List.map_nil, List.length_cons, List.length_nil, List.cons_append, List.nil_append, List.append_nil, List.set_cons_succ, List.set_cons_zero, List.getElem?_cons_zero, List.getElem?_cons_succ, List.getD_cons_zero, List.getD_cons_succ, List.headD_cons, Option.isSome_some, Bool.not_true, Bool.not_false, Bool.false_eq_true, if_true, if_false, true_and, and_true, decide_eq_true_eq, decide_true, decide_false, Nat.zero_add, reduceIte, reduceCtorEq]
  cases wish with
  | true =>
    simp only [if_true]
    exact ⟨goal, rs, fs, ms, true, rfl, h⟩
  | false =>
    simp only [Bool.false_eq_true, if_false]
    exact ⟨goal, rs, fs, ms, false, rfl, h⟩
/-- twice the same, and what is handed in stays -/
def sp_right (P : Addr) : TSp := fun ds g Q _ => ∃ goal rs fs ms wish, ds = [.lst rs, .lst fs, goal, .lst ms, .bl wish, dueT ms ((planN ms.length).find? (hitM goal rs fs ms wish))] ∧ RsOk goal rs ∧ Fc goal ∧ rs ≠ [] ∧ (∀ t ∈ fs, Fc t) ∧ fs.length ≤ 20 ∧ (∀ t ∈ ms, Fc t) ∧ ms.length ≤ 8 ∧ tabB g P ∧ ∀ g', Sub g g' → Q (.bl true) g'
theorem Rl.isDn {goal r : T} (h : Rl goal r) (hg : Fc goal) : TL.isDn 38 r = true ∧ nb r = true := by
  obtain ⟨ps, rfl, hp, _⟩ := h.ex
  have h1 : TL.isDn 37 goal = true := th_isDn _ _ _ hg.th (by omega)
  have h2 : TL.isDn 37 (.tup ps) = true := by
    simp only [TL.isDn]
    refine isDs_of fun p hp' => ?_
    obtain ⟨w, a, ⟨rfl, hw, ha, _⟩, _⟩ := hp p hp'
    simp only [TL.isDn, isDs, Bool.and_true, Bool.and_eq_true]
    have e : PyData.strOk w = true := by rcases hw with rfl | rfl <;> exact strOk_l (by decide)
    exact ⟨e, th_isDn _ _ _ ha (by omega)⟩
  have h3 : nb (.tup ps) = true := by
    simp only [nb]
    refine nbs_of fun p hp' => ?_
    obtain ⟨w, a, ⟨rfl, hw, ha, _⟩, _⟩ := hp p hp'
    simp only [nb, nbs, Bool.and_true, Bool.true_and]
    exact th_nb _ _ ha
  refine ⟨?_, ?_⟩
  · simp only [ruT, TL.isDn, isDs, h1, h2, Bool.and_true, Bool.true_and]
    simpa [TL.isDn] using h2
  · simp only [ruT, nb, nbs, th_nb _ _ hg.th, Bool.and_true, Bool.true_and]
    simpa [nb] using h3
theorem p_right (P : Addr) (ds : List T) (g : G) (Q : K1) (h : sp_right P ds g Q noX) : t__law_right (sp_mend P) sp_same { nx := fun _ g' => Q .non g', rt := Q } (TL.startT N__law_right ds) g := by
  obtain ⟨goal, rs, fs, ms, wish, rfl, hR, hg, hne, hf, hl, hm, hl8, tb, q⟩ := h
  have hr8 := hR.2
  unfold t__law_right
  simp only [qFrz_k, frzK_lst, frzK_dct, frzK_tup, qSeq, qIfS, qOr, qNot, qAnd, qTB, qCB, qCons, qNil, qTup, qLstF, qVar, qC, sl, bIsi, c2, c1, m0, m1, m2, res_tup, res_lst', res_int, res_str, res_bl, res_non, res_dct, res_ty, tyN, isStr, TL.isInt, TL.isTup, TL.isBool, TL.isLst, isN, isB, qIf, qChain, cLe, cLt, cGt, cGe, cEq, cNe, cEqV, cIn, cNotIn, cIsN, cNotN, n2, bLen, lenV, bInt, bTup, qNext, qRet, qRetN, qDrop, qAndV, qOrV, qNotV, qOp, aIx, aSub, aMul, aMod, aFdiv, uNeg, riAdd, riSub, qCall, qAsg, gtName, gtTup, gtCons, gtNil, iLst, iTp, qFor, TL.startT, List.replicate, List.map_cons, List.map_nil, List.length_cons, List.length_nil, List.cons_append, List.nil_append, List.append_nil, List.set_cons_succ, List.set_cons_zero, List.getElem?_cons_zero, List.getElem?_cons_succ, List.getD_cons_zero, List.getD_cons_succ, List.headD_cons, Option.isSome_some, Bool.not_true, Bool.not_false, Bool.false_eq_true, if_true, if_false, true_and, and_true, decide_eq_true_eq, decide_true, decide_false, Nat.zero_add, reduceIte, reduceCtorEq, bList]
  intro p1 hp1
  rw [frzK_putL hp1]
  intro p2 hp2
  rw [frzK_putL hp2]
  intro p3 hp3
  rw [frzK_putL hp3]
  refine ⟨by rw [sizeLine_eq]; omega, ?_⟩
  simp only [qFrz_k, frzK_lst, frzK_dct, frzK_tup, qSeq, qIfS, qOr, qNot, qAnd, qTB, qCB, qCons, qNil, qTup, qLstF, qVar, qC, sl, bIsi, c2, c1, m0, m1, m2, res_tup, res_lst', res_int, res_str, res_bl, res_non, res_dct, res_ty, tyN, isStr, TL.isInt, TL.isTup, TL.isBool, TL.isLst, isN, isB, qIf, qChain, cLe, cLt, cGt, cGe, cEq, cNe, cEqV, cIn, cNotIn, cIsN, cNotN, n2, bLen, lenV, bInt, bTup, qNext, qRet, qRetN, qDrop, qAndV, qOrV, qNotV, qOp, aIx, aSub, aMul, aMod, aFdiv, uNeg, riAdd, riSub, qCall, qAsg, gtName, gtTup, gtCons, gtNil, iLst, iTp, qFor, TL.startT, List.replicate, List.map_cons, List.map_nil, List.length_cons, List.length_nil, List.cons_append, List.nil_append, List.append_nil, List.set_cons_succ, List.set_cons_zero, List.getElem?_cons_zero, List.getElem?_cons_succ, List.getD_cons_zero, List.getD_cons_succ, List.headD_cons, Option.isSome_some, Bool.not_true, Bool.not_false, Bool.false_eq_true, if_true, if_false, true_and, and_true, decide_eq_true_eq, decide_true, decide_false, Nat.zero_add, reduceIte, reduceCtorEq, TL.iRng1]
  refine ⟨by omega, by omega, ?_⟩
  have hD : TL.isDn 40 (.lst [.lst rs, .lst fs, .lst ms]) = true := by
    simp only [TL.isDn, isDs, Bool.and_true, Bool.and_eq_true]
    exact ⟨isDs_of fun t ht => ((hR.1 t ht).isDn hg).1, isDs_of fun t ht => th_isDn _ _ _ (hf t ht).th (by omega), isDs_of fun t ht => th_isDn _ _ _ (hm t ht).th (by omega)⟩
  have hN : nb (.lst [.lst rs, .lst fs, .lst ms]) = true := by
    simp only [nb, nbs, Bool.and_true, Bool.and_eq_true]
    exact ⟨nbs_of fun t ht => ((hR.1 t ht).isDn hg).2, nbs_of fun t ht => th_nb _ _ (hf t ht).th, nbs_of fun t ht => th_nb _ _ (hm t ht).th⟩
  have hE : TL.eqb (.lst [.lst rs, .lst fs, .lst ms]) (.lst [.lst rs, .lst fs, .lst ms]) = true := by rw [eqb_nb _ _ hN hN]; simp
  refine wFor_I (fun us δ g' => Sub g g' ∧ ∃ x7 x8, δ = [some (.lst rs), some (.lst fs), some goal, some (.lst ms), some (.bl wish), some (dueT ms ((planN ms.length).find? (hitM goal rs fs ms wish))), some (.lst [.lst rs, .lst fs, .lst ms]), x7, x8]) (fun _ _ _ _ => trivial) ?_ ?_ _ _ _ ⟨Sub.refl, _, _, rfl⟩
  · rintro t us δ g' ⟨hs, x7, x8, rfl⟩ K hK
    simp only [qFrz_k, frzK_lst, frzK_dct, frzK_tup, qSeq, qIfS, qOr, qNot, qAnd, qTB, qCB, qCons, qNil, qTup, qLstF, qVar, qC, sl, bIsi, c2, c1, m0, m1, m2, res_tup, res_lst', res_int, res_str, res_bl, res_non, res_dct, res_ty, tyN, isStr, TL.isInt, TL.isTup, TL.isBool, TL.isLst, isN, isB, qIf, qChain, cLe, cLt, cGt, cGe, cEq, cNe, cEqV, cIn, cNotIn, cIsN, cNotN, n2, bLen, lenV, bInt, bTup, qNext, qRet, qRetN, qDrop, qAndV, qOrV, qNotV, qOp, aIx, ixV, idx, aSub, aMul, aMod, aFdiv, uNeg, riAdd, riSub, qCall, qAsg, gtName, gtTup, gtCons, gtNil, iLst, iTp, qFor, TL.startT, List.replicate, List.map_cons, List.map_nil, List.length_cons, List.length_nil, List.cons_append, List.nil_append, List.append_nil, List.set_cons_succ, List.set_cons_zero, List.getElem?_cons_zero, List.getElem?_cons_succ, List.getD_cons_zero, List.getD_cons_succ, List.headD_cons, Option.isSome_some, Bool.not_true, Bool.not_false, Bool.false_eq_true, if_true, if_false, true_and, and_true, decide_eq_true_eq, decide_true, decide_false, Nat.zero_add, reduceIte, reduceCtorEq]
    refine ⟨goal, rs, fs, ms, wish, rfl, hR, hg, hne, hf, hl, hm, hl8, tb.sub hs, fun hF g2 hs2 => ?_, fun p hF g2 q2 hs2 hq2 hg2 => ?_⟩
    · simp only [qFrz_k, frzK_lst, frzK_dct, frzK_tup, qSeq, qIfS, qOr, qNot, qAnd, qTB, qCB, qCons, qNil, qTup, qLstF, qVar, qC, sl, bIsi, c2, c1, m0, m1, m2, res_tup, res_lst', res_int, res_str, res_bl, res_non, res_dct, res_ty, tyN, isStr, TL.isInt, TL.isTup, TL.isBool, TL.isLst, isN, isB, qIf, qChain, cLe, cLt, cGt, cGe, cEq, cNe, cEqV, cIn, cNotIn, cIsN, cNotN, n2, bLen, lenV, bInt, bTup, qNext, qRet, qRetN, qDrop, qAndV, qOrV, qNotV, qOp, aIx, ixV, idx, aSub, aMul, aMod, aFdiv, uNeg, riAdd, riSub, qCall, qAsg, gtName, gtTup, gtCons, gtNil, iLst, iTp, qFor, TL.startT, List.replicate, List.map_cons, List.map_nil, List.length_cons, List.length_nil, List.cons_append, List.nil_append, List.append_nil, List.set_cons_succ, List.set_cons_zero, List.getElem?_cons_zero, List.getElem?_cons_succ, List.getD_cons_zero, List.getD_cons_succ, List.headD_cons, Option.isSome_some, Bool.not_true, Bool.not_false, Bool.false_eq_true, if_true, if_false, true_and, and_true, decide_eq_true_eq, decide_true, decide_false, Nat.zero_add, reduceIte, reduceCtorEq]
      rw [hF]
      refine .inl ⟨rfl, ?_⟩
      simp only [qFrz_k, frzK_lst, frzK_dct, frzK_tup, qSeq, qIfS, qOr, qNot, qAnd, qTB, qCB, qCons, qNil, qTup, qLstF, qVar, qC, sl, bIsi, c2, c1, m0, m1, m2, res_tup, res_lst', res_int, res_str, res_bl, res_non, res_dct, res_ty, tyN, isStr, TL.isInt, TL.isTup, TL.isBool, TL.isLst, isN, isB, qIf, qChain, cLe, cLt, cGt, cGe, cEq, cNe, cEqV, cIn, cNotIn, cIsN, cNotN, n2, bLen, lenV, bInt, bTup, qNext, qRet, qRetN, qDrop, qAndV, qOrV, qNotV, qOp, aIx, ixV, idx, aSub, aMul, aMod, aFdiv, uNeg, riAdd, riSub, qCall, qAsg, gtName, gtTup, gtCons, gtNil, iLst, iTp, qFor, TL.startT, List.replicate, List.map_cons, List.map_nil, List.length_cons, List.length_nil, List.cons_append, List.nil_append, List.append_nil, List.set_cons_succ, List.set_cons_zero, List.getElem?_cons_zero, List.getElem?_cons_succ, List.getD_cons_zero, List.getD_cons_succ, List.headD_cons, Option.isSome_some, Bool.not_true, Bool.not_false, Bool.false_eq_true, if_true, if_false, true_and, and_true, decide_eq_true_eq, decide_true, decide_false, Nat.zero_add, reduceIte, reduceCtorEq]
      refine ⟨by rw [sizeLine_eq]; omega, hD, hD, ?_⟩
      rw [hE]
      simp only [qFrz_k, frzK_lst, frzK_dct, frzK_tup, qSeq, qIfS, qOr, qNot, qAnd, qTB, qCB, qCons, qNil, qTup, qLstF, qVar, qC, sl, bIsi, c2, c1, m0, m1, m2, res_tup, res_lst', res_int, res_str, res_bl, res_non, res_dct, res_ty, tyN, isStr, TL.isInt, TL.isTup, TL.isBool, TL.isLst, isN, isB, qIf, qChain, cLe, cLt, cGt, cGe, cEq, cNe, cEqV, cIn, cNotIn, cIsN, cNotN, n2, bLen, lenV, bInt, bTup, qNext, qRet, qRetN, qDrop, qAndV, qOrV, qNotV, qOp, aIx, ixV, idx, aSub, aMul, aMod, aFdiv, uNeg, riAdd, riSub, qCall, qAsg, gtName, gtTup, gtCons, gtNil, iLst, iTp, qFor, TL.startT, List.replicate, List.map_cons, List.map_nil, List.length_cons, List.length_nil, List.cons_append, List.nil_append, List.append_nil, List.set_cons_succ, List.set_cons_zero, List.getElem?_cons_zero, List.getElem?_cons_succ, List.getD_cons_zero, List.getD_cons_succ, List.headD_cons, Option.isSome_some, Bool.not_true, Bool.not_false, Bool.false_eq_true, if_true, if_false, true_and, and_true, decide_eq_true_eq, decide_true, decide_false, Nat.zero_add, reduceIte, reduceCtorEq]
      have := hK [some (.lst rs), some (.lst fs), some goal, some (.lst ms), some (.bl wish), some (dueT ms ((planN ms.length).find? (hitM goal rs fs ms wish))), some (.lst [.lst rs, .lst fs, .lst ms]), some t, some .non] g2 ⟨hs.trans hs2, _, _, rfl⟩
      rw [hF] at this
      exact this
    · have hcs : ∀ t ∈ pickT ms p, Fc t := fun t ht => hm t (mem_pick ht)
      have hcl : (pickT ms p).length ≤ 8 := Nat.le_trans (List.length_filterMap_le _ _) (plan_lt ms.length (by omega) p (List.mem_of_find?_eq_some hF)).2
      have hq0 : g q2 = none := pd_none hs hq2
      simp only [qFrz_k, frzK_lst, frzK_dct, frzK_tup, qSeq, qIfS, qOr, qNot, qAnd, qTB, qCB, qCons, qNil, qTup, qLstF, qVar, qC, sl, bIsi, c2, c1, m0, m1, m2, res_tup, res_lst', res_int, res_str, res_bl, res_non, res_dct, res_ty, tyN, isStr, TL.isInt, TL.isTup, TL.isBool, TL.isLst, isN, isB, qIf, qChain, cLe, cLt, cGt, cGe, cEq, cNe, cEqV, cIn, cNotIn, cIsN, cNotN, n2, bLen, lenV, bInt, bTup, qNext, qRet, qRetN, qDrop, qAndV, qOrV, qNotV, qOp, aIx, ixV, idx, aSub, aMul, aMod, aFdiv, uNeg, riAdd, riSub, qCall, qAsg, gtName, gtTup, gtCons, gtNil, iLst, iTp, qFor, TL.startT, List.replicate, List.map_cons, List.map_nil, List.length_cons, List.length_nil, List.cons_append, List.nil_append, List.append_nil, List.set_cons_succ, List.set_cons_zero, List.getElem?_cons_zero, List.getElem?_cons_succ, List.getD_cons_zero, List.getD_cons_succ, List.headD_cons, Option.isSome_some, Bool.not_true, Bool.not_false, Bool.false_eq_true, if_true, if_false, true_and, and_true, decide_eq_true_eq, decide_true, decide_false, Nat.zero_add, reduceIte, reduceCtorEq]
      rw [hF]
      refine .inr ⟨q2, pickT ms p, rfl, hg2, hcs, by omega, ?_⟩
      simp only [qFrz_k, frzK_lst, frzK_dct, frzK_tup, qSeq, qIfS, qOr, qNot, qAnd, qTB, qCB, qCons, qNil, qTup, qLstF, qVar, qC, sl, bIsi, c2, c1, m0, m1, m2, res_tup, res_lst', res_int, res_str, res_bl, res_non, res_dct, res_ty, tyN, isStr, TL.isInt, TL.isTup, TL.isBool, TL.isLst, isN, isB, qIf, qChain, cLe, cLt, cGt, cGe, cEq, cNe, cEqV, cIn, cNotIn, cIsN, cNotN, n2, bLen, lenV, bInt, bTup, qNext, qRet, qRetN, qDrop, qAndV, qOrV, qNotV, qOp, aIx, ixV, idx, aSub, aMul, aMod, aFdiv, uNeg, riAdd, riSub, qCall, qAsg, gtName, gtTup, gtCons, gtNil, iLst, iTp, qFor, TL.startT, List.replicate, List.map_cons, List.map_nil, List.length_cons, List.length_nil, List.cons_append, List.nil_append, List.append_nil, List.set_cons_succ, List.set_cons_zero, List.getElem?_cons_zero, List.getElem?_cons_succ, List.getD_cons_zero, List.getD_cons_succ, List.headD_cons, Option.isSome_some, Bool.not_true, Bool.not_false, Bool.false_eq_true, if_true, if_false, true_and, and_true, decide_eq_true_eq, decide_true, decide_false, Nat.zero_add, reduceIte, reduceCtorEq]
      refine ⟨by rw [sizeLine_eq]; omega, hD, hD, ?_⟩
      rw [hE]
      simp only [qFrz_k, frzK_lst, frzK_dct, frzK_tup, qSeq, qIfS, qOr, qNot, qAnd, qTB, qCB, qCons, qNil, qTup, qLstF, qVar, qC, sl, bIsi, c2, c1, m0, m1, m2, res_tup, res_lst', res_int, res_str, res_bl, res_non, res_dct, res_ty, tyN, isStr, TL.isInt, TL.isTup, TL.isBool, TL.isLst, isN, isB, qIf, qChain, cLe, cLt, cGt, cGe, cEq, cNe, cEqV, cIn, cNotIn, cIsN, cNotN, n2, bLen, lenV, bInt, bTup, qNext, qRet, qRetN, qDrop, qAndV, qOrV, qNotV, qOp, aIx, ixV, idx, aSub, aMul, aMod, aFdiv, uNeg, riAdd, riSub, qCall, qAsg, gtName, gtTup, gtCons, gtNil, iLst, iTp, qFor, TL.startT, List.replicate, List.map_cons, List.map_nil, List.length_cons, List.length_nil, List.cons_append, List.nil_append, List.append_nil, List.set_cons_succ, List.set_cons_zero, List.getElem?_cons_zero, List.getElem?_cons_succ, List.getD_cons_zero, List.getD_cons_succ, List.headD_cons, Option.isSome_some, Bool.not_true, Bool.not_false, Bool.false_eq_true, if_true, if_false, true_and, and_true, decide_eq_true_eq, decide_true, decide_false, Nat.zero_add, reduceIte, reduceCtorEq, qBM, res_refL hg2, isTp, mAppend, gl, hg2]
      refine ⟨by decide, by rw [sizeLine_eq]; omega, ?_⟩
      have := hK [some (.lst rs), some (.lst fs), some goal, some (.lst ms), some (.bl wish), some (dueT ms ((planN ms.length).find? (hitM goal rs fs ms wish))), some (.lst [.lst rs, .lst fs, .lst ms]), some t, some (.ref q2)] (gput g2 q2 (.lst (pickT ms p ++ [goal]))) ⟨(hs.trans hs2).put1 hq0, _, _, rfl⟩
      rw [hF] at this
      exact this
  · rintro δ g' ⟨hs, x7, x8, rfl⟩
    exact q g' hs
end K82
set_option Elab.async false
set_option linter.all false
set_option maxRecDepth 100000
set_option maxHeartbeats 4000000
namespace K82
open PySem PySem.Spec L2 PyProof.Rows TL
theorem cut_head {α : Type} {ts : List α} {d : Int} (h : 0 ≤ d) : cutT ts none (some d) = ts.take d.toNat := by
  obtain ⟨n, rfl⟩ := Int.eq_ofNat_of_zero_le h
  unfold cutT
  rw [HT.sIx_none, List.drop_zero, Nat.sub_zero, Int.toNat_natCast]
  show ts.take (HT.sIx ts.length ts.length (some ((n : Nat) : Int))) = _
  rw [HT.sIx_nat, ← List.take_eq_take_min]
def sp_law (P1 P2 : Addr) : TSp := fun ds g Q _ => ∃ ns : List Int, ds = [.scr ns] ∧ tabB g P1 ∧ tabL g P2 ∧ ∀ g', Q (.bl true) g'
theorem p_law (P1 P2 : Addr) (ds : List T) (g : G) (Q : K1) (h : sp_law P1 P2 ds g Q noX) : t_law sp_words sp_left sp_eight sp_consts sp_mixed sp_pick sp_rules (sp_parts P2) sp_lstands sp_changed (sp_right P1) (sp_due P2) { nx := fun _ g' => Q .non g', rt := Q } (TL.startT N_law ds) g := by
  obtain ⟨ns, rfl, tB, tL, q⟩ := h
  unfold t_law
  generalize hrest : (qSeq (qIfS (qTB (qOp cEq (qCall sp_pick [] (qCons (qVar 3) (qCons (qC (.int 6)) qNil))) (qC (.int 0)))) (qAsg (qFrz (qOp aAdd (qVar 7) (qLstF (qCons (qVar 5) (qCons (qVar 5) qNil))))) (gtName 7)) qNext) (qSeq (qIfS (qTB (qOp cEq (qCall sp_pick [] (qCons (qVar 3) (qCons (qC (.int 4)) qNil))) (qC (.int 0)))) (qAsg (qVar 5) (gtSub (qVar 4) (qCall sp_pick [] (qCons (qVar 3) (qCons (qCB bLen (qCons (qVar 4) qNil)) qNil))))) qNext) (qFz 4 (qSeq (qAsg qDict0 (gtName 8)) (qSeq (qFor (iLst (qCall (sp_parts P2) [] (qCons (qCB bLen (qCons (qVar 4) qNil)) qNil))) (gtName 9) (qAsg (qCall sp_lstands [] (qCons (qVar 6) (qCons (qCall sp_changed [] (qCons (qVar 7) (qCons (qFrz (qLc [12] (iLst (qVar 9)) (gtName 12) qYes (qOp aIx (qVar 4) (qVar 12)))) qNil))) (qCons (qVar 5) qNil)))) (gtSub (qVar 8) (qCB bTup (qCons (qVar 9) qNil))))) (qSeq (qFor (iTp (qTup (qCons (qC (.bl true)) (qCons (qC (.bl false)) qNil)))) (gtName 10) (qIfS (qNot (qTB (qCall (sp_right P1) [] (qCons (qVar 6) (qCons (qVar 7) (qCons (qVar 5) (qCons (qVar 4) (qCons (qVar 10) (qCons (qCall (sp_due P2) [] (qCons (qVar 8) (qCons (qVar 4) (qCons (qVar 10) qNil)))) qNil))))))))) (qRet (qC (.bl false))) qNext)) (qRet (qC (.bl true))))))))) = rest
  simp only [qFrz_k, frzK_lst, frzK_dct, frzK_tup, qSeq, qIfS, qOr, qNot, qAnd, qTB, qCB, qCons, qNil, qTup, qLstF, qVar, qC, sl, bIsi, c2, c1, m0, m1, m2, res_tup, res_lst', res_int, res_str, res_bl, res_non, res_dct, res_ty, tyN, isStr, TL.isInt, TL.isTup, TL.isBool, TL.isLst, isN, isB, qIf, qChain, cLe, cLt, cGt, cGe, cEq, cNe, cEqV, cIn, cNotIn, cIsN, cNotN, n2, bLen, lenV, bInt, bTup, qNext, qRet, qRetN, qDrop, qAndV, qOrV, qNotV, qOp, aIx, aSub, aMul, aMod, aFdiv, uNeg, riAdd, riSub, qCall, qAsg, gtName, gtTup, gtCons, gtNil, iLst, iTp, qFor, TL.startT, List.replicate, List.map_cons, List.map_nil, List.length_cons, List.length_nil, List.cons_append, List.nil_append, List.append_nil, List.set_cons_succ, List.set_cons_zero, List.getElem?_cons_zero, List.getElem?_cons_succ, List.getD_cons_zero, List.getD_cons_succ, List.headD_cons, Option.isSome_some, Bool.not_true, Bool.not_false, Bool.false_eq_true, if_true, if_false, true_and, and_true, decide_eq_true_eq, decide_true, decide_false, Nat.zero_add, reduceIte, reduceCtorEq]
  -- words
  refine ⟨ns, 1, rfl, by omega, fun a1 g1 s1 n1 L1 => ⟨a1, rfl, L1, fun ws g2 s2 L2 hW => ?_⟩⟩
  have S2 : Sub g g2 := s1.of1 n1 s2
  obtain ⟨xs, rfl, hx6, hok, hnd⟩ := hW.ex
  obtain ⟨x0, x1, x2, x3, x4, x5, rfl⟩ : ∃ x0 x1 x2 x3 x4 x5, xs = [x0, x1, x2, x3, x4, x5] := by
    match xs, hx6 with
    | [a, b, c, d, e, f], _ => exact ⟨a, b, c, d, e, f, rfl⟩
  simp only [qFrz_k, frzK_lst, frzK_dct, frzK_tup, qSeq, qIfS, qOr, qNot, qAnd, qTB, qCB, qCons, qNil, qTup, qLstF, qVar, qC, sl, bIsi, c2, c1, m0, m1, m2, res_tup, res_lst', res_int, res_str, res_bl, res_non, res_dct, res_ty, tyN, isStr, TL.isInt, TL.isTup, TL.isBool, TL.isLst, isN, isB, qIf, qChain, cLe, cLt, cGt, cGe, cEq, cNe, cEqV, cIn, cNotIn, cIsN, cNotN, n2, bLen, lenV, bInt, bTup, qNext, qRet, qRetN, qDrop, qAndV, qOrV, qNotV, qOp, aIx, aSub, aMul, aMod, aFdiv, uNeg, riAdd, riSub, qCall, qAsg, gtName, gtTup, gtCons, gtNil, iLst, iTp, qFor, TL.startT, List.replicate, List.map_cons, List.map_nil, List.length_cons, List.length_nil, List.cons_append, List.nil_append, List.append_nil, List.set_cons_succ, List.set_cons_zero, List.getElem?_cons_zero, List.getElem?_cons_succ, List.getD_cons_zero, List.getD_cons_succ, List.headD_cons, Option.isSome_some, Bool.not_true, Bool.not_false, Bool.false_eq_true, if_true, if_false, true_and, and_true, decide_eq_true_eq, decide_true, decide_false, Nat.zero_add, reduceIte, reduceCtorEq]
  -- constants, facts
  refine ⟨ns, 2, rfl, by omega, fun a3 g3 s3 n3 L3 => ⟨a3, x0, x1, x2, x3, x4, x5, rfl, L3, fun n far g4 s4 L4 hn1 hn2 hfar => ⟨x0, x1, x2, x3, x4, x5, n, far, rfl, ?_⟩⟩⟩
  have S4 : Sub g g4 := S2.trans (s3.of1 n3 s4)
  have hE := ev_ok (xs := [x0, x1, x2, x3, x4, x5]) rfl hok hnd hn1 hn2 hfar
  generalize hev : eightT x0 x1 x2 x3 x4 n far = every at hE ⊢
  simp only [qFrz_k, frzK_lst, frzK_dct, frzK_tup, qSeq, qIfS, qOr, qNot, qAnd, qTB, qCB, qCons, qNil, qTup, qLstF, qVar, qC, sl, bIsi, c2, c1, m0, m1, m2, res_tup, res_lst', res_int, res_str, res_bl, res_non, res_dct, res_ty, tyN, isStr, TL.isInt, TL.isTup, TL.isBool, TL.isLst, isN, isB, qIf, qChain, cLe, cLt, cGt, cGe, cEq, cNe, cEqV, cIn, cNotIn, cIsN, cNotN, n2, bLen, lenV, bInt, bTup, qNext, qRet, qRetN, qDrop, qAndV, qOrV, qNotV, qOp, aIx, aSub, aMul, aMod, aFdiv, uNeg, riAdd, riSub, qCall, qAsg, gtName, gtTup, gtCons, gtNil, iLst, iTp, qFor, TL.startT, List.replicate, List.map_cons, List.map_nil, List.length_cons, List.length_nil, List.cons_append, List.nil_append, List.append_nil, List.set_cons_succ, List.set_cons_zero, List.getElem?_cons_zero, List.getElem?_cons_succ, List.getD_cons_zero, List.getD_cons_succ, List.headD_cons, Option.isSome_some, Bool.not_true, Bool.not_false, Bool.false_eq_true, if_true, if_false, true_and, and_true, decide_eq_true_eq, decide_true, decide_false, Nat.zero_add, reduceIte, reduceCtorEq]
  -- left, may
  refine ⟨ns, 3, rfl, by omega, fun a5 g5 s5 n5 L5 => ?_⟩
  simp only [qFrz_k, frzK_lst, frzK_dct, frzK_tup, qSeq, qIfS, qOr, qNot, qAnd, qTB, qCB, qCons, qNil, qTup, qLstF, qVar, qC, sl, bIsi, c2, c1, m0, m1, m2, res_tup, res_lst', res_int, res_str, res_bl, res_non, res_dct, res_ty, tyN, isStr, TL.isInt, TL.isTup, TL.isBool, TL.isLst, isN, isB, qIf, qChain, cLe, cLt, cGt, cGe, cEq, cNe, cEqV, cIn, cNotIn, cIsN, cNotN, n2, bLen, lenV, bInt, bTup, qNext, qRet, qRetN, qDrop, qAndV, qOrV, qNotV, qOp, aIx, aSub, aMul, aMod, aFdiv, uNeg, riAdd, riSub, qCall, qAsg, gtName, gtTup, gtCons, gtNil, iLst, iTp, qFor, TL.startT, List.replicate, List.map_cons, List.map_nil, List.length_cons, List.length_nil, List.cons_append, List.nil_append, List.append_nil, List.set_cons_succ, List.set_cons_zero, List.getElem?_cons_zero, List.getElem?_cons_succ, List.getD_cons_zero, List.getD_cons_succ, List.headD_cons, Option.isSome_some, Bool.not_true, Bool.not_false, Bool.false_eq_true, if_true, if_false, true_and, and_true, decide_eq_true_eq, decide_true, decide_false, Nat.zero_add, reduceIte, reduceCtorEq, qSl, qNoPart, qPart]
  refine ⟨a5, every, rfl, L5, by rw [hE.len]; omega, fun pm g6 out s6 L6 nm6 hm6 hperm => ?_⟩
  have hma : pm ≠ a5 := L5.ne nm6
  refine ⟨a5, 6, rfl, L6, by omega, by omega, fun d g7 s7 L7 hd0 hd1 => ?_⟩
  have hm7 := s7 pm _ hma hm6
  simp only [aAdd, qFrz_k, frzK_lst, frzK_dct, frzK_tup, qSeq, qIfS, qOr, qNot, qAnd, qTB, qCB, qCons, qNil, qTup, qLstF, qVar, qC, sl, bIsi, c2, c1, m0, m1, m2, res_tup, res_lst', res_int, res_str, res_bl, res_non, res_dct, res_ty, tyN, isStr, TL.isInt, TL.isTup, TL.isBool, TL.isLst, isN, isB, qIf, qChain, cLe, cLt, cGt, cGe, cEq, cNe, cEqV, cIn, cNotIn, cIsN, cNotN, n2, bLen, lenV, bInt, bTup, qNext, qRet, qRetN, qDrop, qAndV, qOrV, qNotV, qOp, aIx, aSub, aMul, aMod, aFdiv, uNeg, riAdd, riSub, qCall, qAsg, gtName, gtTup, gtCons, gtNil, iLst, iTp, qFor, TL.startT, List.replicate, List.map_cons, List.map_nil, List.length_cons, List.length_nil, List.cons_append, List.nil_append, List.append_nil, List.set_cons_succ, List.set_cons_zero, List.getElem?_cons_zero, List.getElem?_cons_succ, List.getD_cons_zero, List.getD_cons_succ, List.headD_cons, Option.isSome_some, Bool.not_true, Bool.not_false, Bool.false_eq_true, if_true, if_false, true_and, and_true, decide_eq_true_eq, decide_true, decide_false, Nat.zero_add, reduceIte, reduceCtorEq, slV, res_refL hm7]
  intro pc hpc
  rw [cut_head (by omega)]
  have S7 : Sub g g7 := S4.trans ((s5.of1 n5 s6).of1 n5 s7)
  have hpca : pc ≠ a5 := L7.ne hpc
  have hpcg : g pc = none := pd_none S7 hpc
  -- the goal
  simp only [qFrz_k, frzK_lst, frzK_dct, frzK_tup, qSeq, qIfS, qOr, qNot, qAnd, qTB, qCB, qCons, qNil, qTup, qLstF, qVar, qC, sl, bIsi, c2, c1, m0, m1, m2, res_tup, res_lst', res_int, res_str, res_bl, res_non, res_dct, res_ty, tyN, isStr, TL.isInt, TL.isTup, TL.isBool, TL.isLst, isN, isB, qIf, qChain, cLe, cLt, cGt, cGe, cEq, cNe, cEqV, cIn, cNotIn, cIsN, cNotN, n2, bLen, lenV, bInt, bTup, qNext, qRet, qRetN, qDrop, qAndV, qOrV, qNotV, qOp, aIx, ixV, idx, aSub, aMul, aMod, aFdiv, uNeg, riAdd, riSub, qCall, qAsg, gtName, gtTup, gtCons, gtNil, iLst, iTp, qFor, TL.startT, List.replicate, List.map_cons, List.map_nil, List.length_cons, List.length_nil, List.cons_append, List.nil_append, List.append_nil, List.set_cons_succ, List.set_cons_zero, List.getElem?_cons_zero, List.getElem?_cons_succ, List.getD_cons_zero, List.getD_cons_succ, List.headD_cons, Option.isSome_some, Bool.not_true, Bool.not_false, Bool.false_eq_true, if_true, if_false, true_and, and_true, decide_eq_true_eq, decide_true, decide_false, Nat.zero_add, reduceIte, reduceCtorEq]
  refine ⟨by rw [sizeLine_eq]; omega, ?_⟩
  have hml : (out.take (3 + d).toNat).length = (3 + d).toNat := by
    rw [List.length_take, hperm.length_eq, hE.len]
    omega
  have hmf : ∀ t ∈ out.take (3 + d).toNat, Fc t := fun t ht => hE.fc t (hperm.mem_iff.mp (List.mem_of_mem_take ht))
  have hmlen : 3 ≤ (3 + d).toNat ∧ (3 + d).toNat ≤ 8 := by omega
  generalize out.take (3 + d).toNat = may at hml hmf ⊢
  rw [← hml] at hmlen
  generalize hgo : T.tup [.str x5, .int 1] = goal at hE ⊢
  have hg := hE.g
  -- the rules
  refine ⟨ns, 4, rfl, by omega, fun a8 g8 s8 n8 L8 => ⟨a8, every, goal, rfl, hE, L8, fun rs g9 s9 L9 hR hne => ?_⟩⟩
  have T9 : Sub (gput g7 pc (.lst may)) g9 := s8.of1 n8 s9
  have hc9 : g9 pc = some (.lst may) := T9 _ _ gput_same
  have S9 : Sub g g9 := (S7.trans (sub_put hpc)).trans T9
  simp only [qFrz_k, frzK_lst, frzK_dct, frzK_tup, qSeq, qIfS, qOr, qNot, qAnd, qTB, qCB, qCons, qNil, qTup, qLstF, qVar, qC, sl, bIsi, c2, c1, m0, m1, m2, res_tup, res_lst', res_int, res_str, res_bl, res_non, res_dct, res_ty, tyN, isStr, TL.isInt, TL.isTup, TL.isBool, TL.isLst, isN, isB, qIf, qChain, cLe, cLt, cGt, cGe, cEq, cNe, cEqV, cIn, cNotIn, cIsN, cNotN, n2, bLen, lenV, bInt, bTup, qNext, qRet, qRetN, qDrop, qAndV, qOrV, qNotV, qOp, aIx, aSub, aMul, aMod, aFdiv, uNeg, riAdd, riSub, qCall, qAsg, gtName, gtTup, gtCons, gtNil, iLst, iTp, qFor, TL.startT, List.replicate, List.map_cons, List.map_nil, List.length_cons, List.length_nil, List.cons_append, List.nil_append, List.append_nil, List.set_cons_succ, List.set_cons_zero, List.getElem?_cons_zero, List.getElem?_cons_succ, List.getD_cons_zero, List.getD_cons_succ, List.headD_cons, Option.isSome_some, Bool.not_true, Bool.not_false, Bool.false_eq_true, if_true, if_false, true_and, and_true, decide_eq_true_eq, decide_true, decide_false, Nat.zero_add, reduceIte, reduceCtorEq]
  -- the told facts
  refine ⟨ns, 5, rfl, by omega, fun a10 g10 s10 n10 L10 => ?_⟩
  have hc10 := s10 _ _ hc9
  have S10 : Sub g g10 := S9.trans s10
  have ha10 : g a10 = none := pd_none S9 n10
  have hpa10 : pc ≠ a10 := fun z => by rw [z, n10] at hc9; cases hc9
  simp only [qFrz_k, frzK_lst, frzK_dct, frzK_tup, qSeq, qIfS, qOr, qNot, qAnd, qTB, qCB, qCons, qNil, qTup, qLstF, qVar, qC, sl, bIsi, c2, c1, m0, m1, m2, res_tup, res_lst', res_int, res_str, res_bl, res_non, res_dct, res_ty, tyN, isStr, TL.isInt, TL.isTup, TL.isBool, TL.isLst, isN, isB, qIf, qChain, cLe, cLt, cGt, cGe, cEq, cNe, cEqV, cIn, cNotIn, cIsN, cNotN, n2, bLen, lenV, bInt, bTup, qNext, qRet, qRetN, qDrop, qAndV, qOrV, qNotV, qOp, aIx, aSub, aMul, aMod, aFdiv, uNeg, riAdd, riSub, qCall, qAsg, gtName, gtTup, gtCons, gtNil, iLst, iTp, qFor, TL.startT, List.replicate, List.map_cons, List.map_nil, List.length_cons, List.length_nil, List.cons_append, List.nil_append, List.append_nil, List.set_cons_succ, List.set_cons_zero, List.getElem?_cons_zero, List.getElem?_cons_succ, List.getD_cons_zero, List.getD_cons_succ, List.headD_cons, Option.isSome_some, Bool.not_true, Bool.not_false, Bool.false_eq_true, if_true, if_false, true_and, and_true, decide_eq_true_eq, decide_true, decide_false, Nat.zero_add, reduceIte, reduceCtorEq]
  refine lcG (I := fun D us g' => Sub1 a10 g g' ∧ Lf g' a10 ∧ g' pc = some (.lst may) ∧ D ≠ a10 ∧ D ≠ pc ∧ g D = none ∧ (∀ u ∈ us, u ∈ every) ∧ ∃ acc, g' D = some (.lst acc) ∧ (∀ t ∈ acc, Fc t) ∧ acc.length + us.length ≤ 8) (ts := every) (kp := yes) (fun R h => h) (fun D hD => ?_) (fun _ _ _ _ => trivial) (fun D t us g' hI K hK => ?_) (fun D g' hI => ?_)
  · have hDa := L10.ne hD
    have hDc : D ≠ pc := fun z => by rw [z, hc10] at hD; cases hD
    exact ⟨(S10.sub1 (a := a10)).putp (pd_none S10 hD), L10.put hDa, by rw [gput_ne hDc.symm]; exact hc10, hDa, hDc, pd_none S10 hD, fun _ h => h, [], gput_same, by simp, by simp [hE.len]⟩
  · obtain ⟨hs, hL, hc, hDa, hDc, hDg, hm, acc, hacc, hfa, hal⟩ := hI
    simp only [List.length_cons] at hal
    simp only [qFrz_k, frzK_lst, frzK_dct, frzK_tup, qSeq, qIfS, qOr, qNot, qAnd, qTB, qCB, qCons, qNil, qTup, qLstF, qVar, qC, sl, bIsi, c2, c1, m0, m1, m2, res_tup, res_lst', res_int, res_str, res_bl, res_non, res_dct, res_ty, tyN, isStr, TL.isInt, TL.isTup, TL.isBool, TL.isLst, isN, isB, qIf, qChain, cLe, cLt, cGt, cGe, cEq, cNe, cEqV, cIn, cNotIn, cIsN, cNotN, n2, bLen, lenV, bInt, bTup, qNext, qRet, qRetN, qDrop, qAndV, qOrV, qNotV, qOp, aIx, aSub, aMul, aMod, aFdiv, uNeg, riAdd, riSub, qCall, qAsg, gtName, gtTup, gtCons, gtNil, iLst, iTp, qFor, TL.startT, List.replicate, List.map_cons, List.map_nil, List.length_cons, List.length_nil, List.cons_append, List.nil_append, List.append_nil, List.set_cons_succ, List.set_cons_zero, List.getElem?_cons_zero, List.getElem?_cons_succ, List.getD_cons_zero, List.getD_cons_succ, List.headD_cons, Option.isSome_some, Bool.not_true, Bool.not_false, Bool.false_eq_true, if_true, if_false, true_and, and_true, decide_eq_true_eq, decide_true, decide_false, Nat.zero_add, reduceIte, reduceCtorEq, wipeT]
    refine ⟨a10, 2, rfl, hL, by omega, by omega, fun b g'' hs2 hL2 hb0 hb1 => ?_⟩
    have hacc2 := hs2 D _ hDa hacc
    have hc2 := hs2 pc _ hpa10 hc
    simp only [qFrz_k, frzK_lst, frzK_dct, frzK_tup, qSeq, qIfS, qOr, qNot, qAnd, qTB, qCB, qCons, qNil, qTup, qLstF, qVar, qC, sl, bIsi, c2, c1, m0, m1, m2, res_tup, res_lst', res_int, res_str, res_bl, res_non, res_dct, res_ty, tyN, isStr, TL.isInt, TL.isTup, TL.isBool, TL.isLst, isN, isB, qIf, qChain, cLe, cLt, cGt, cGe, cEq, cNe, cEqV, cIn, cNotIn, cIsN, cNotN, n2, bLen, lenV, bInt, bTup, qNext, qRet, qRetN, qDrop, qAndV, qOrV, qNotV, qOp, aIx, aSub, aMul, aMod, aFdiv, uNeg, riAdd, riSub, qCall, qAsg, gtName, gtTup, gtCons, gtNil, iLst, iTp, qFor, TL.startT, List.replicate, List.map_cons, List.map_nil, List.length_cons, List.length_nil, List.cons_append, List.nil_append, List.append_nil, List.set_cons_succ, List.set_cons_zero, List.getElem?_cons_zero, List.getElem?_cons_succ, List.getD_cons_zero, List.getD_cons_succ, List.headD_cons, Option.isSome_some, Bool.not_true, Bool.not_false, Bool.false_eq_true, if_true, if_false, true_and, and_true, decide_eq_true_eq, decide_true, decide_false, Nat.zero_add, reduceIte, reduceCtorEq]
    have ht := hE.fc t (hm t (List.mem_cons_self ..))
    split
    · refine ⟨acc, hacc2, by rw [sizeLine_eq]; omega, hK _ ⟨(hs.trans hs2).putp hDg, hL2.put hDa, by rw [gput_ne hDc.symm]; exact hc2, hDa, hDc, hDg, fun u hu => hm u (List.mem_cons_of_mem _ hu), acc ++ [t], gput_same, fun u hu => ?_, by simp; omega⟩⟩
      rcases List.mem_append.mp hu with hu | hu
      · exact hfa u hu
      · rw [List.mem_singleton.mp hu]; exact ht
    · exact hK _ ⟨hs.trans hs2, hL2, hc2, hDa, hDc, hDg, fun u hu => hm u (List.mem_cons_of_mem _ hu), acc, hacc2, hfa, by omega⟩
  · obtain ⟨hs, hL, hc, hDa, hDc, hDg, hm, acc, hacc, hfa, hal⟩ := hI
    rw [frzK_refL hacc]
    have S11 : Sub1 a10 g (gdel g' D) := hs.delp hDg
    have L11 : Lf (gdel g' D) a10 := hL.del hDa
    have c11 : (gdel g' D) pc = some (.lst may) := by rw [gdel_ne hDc.symm]; exact hc
    generalize gdel g' D = g11 at S11 L11 c11 ⊢
    simp only [List.length_nil, Nat.add_zero] at hal
    -- from the told facts on
    have tail : ∀ (fs : List T) (g12 : G) (may : List T), (∀ t ∈ fs, Fc t) → fs.length ≤ 10 → (∀ t ∈ may, Fc t) → may.length ≤ 8 → Sub1 a10 g g12 → g12 pc = some (.lst may) →
        qFz 4 (qSeq (qAsg qDict0 (gtName 8)) (qSeq (qFor (iLst (qCall (sp_parts P2) [] (qCons (qCB bLen (qCons (qVar 4) qNil)) qNil))) (gtName 9) (qAsg (qCall sp_lstands [] (qCons (qVar 6) (qCons (qCall sp_changed [] (qCons (qVar 7) (qCons (qFrz (qLc [12] (iLst (qVar 9)) (gtName 12) qYes (qOp aIx (qVar 4) (qVar 12)))) qNil))) (qCons (qVar 5) qNil)))) (gtSub (qVar 8) (qCB bTup (qCons (qVar 9) qNil))))) (qSeq (qFor (iTp (qTup (qCons (qC (.bl true)) (qCons (qC (.bl false)) qNil)))) (gtName 10) (qIfS (qNot (qTB (qCall (sp_right P1) [] (qCons (qVar 6) (qCons (qVar 7) (qCons (qVar 5) (qCons (qVar 4) (qCons (qVar 10) (qCons (qCall (sp_due P2) [] (qCons (qVar 8) (qCons (qVar 4) (qCons (qVar 10) qNil)))) qNil))))))))) (qRet (qC (.bl false))) qNext)) (qRet (qC (.bl true))))))
          { nx := fun _ g' => Q .non g', rt := Q } [some (.scr ns), some (.lst ([x0, x1, x2, x3, x4, x5].map T.str)), some (.lst every), some (.ref a10), some (.ref pc), some goal, some (.lst rs), some (.lst fs), none, none, none, none, none] g12 := by
      intro fs g12 may hf hfl hm hml S12 c12
      have S13 : Sub g (gdel g12 pc) := fun b o e => by
        have hb : b ≠ pc := fun z => by rw [z, hpcg] at e; cases e
        have hb2 : b ≠ a10 := fun z => by rw [z, ha10] at e; cases e
        rw [gdel_ne hb]; exact S12 b o hb2 e
      simp only [qFz, sl, c12]
      generalize gdel g12 pc = g13 at S13 ⊢
      simp only [qFrz_k, frzK_lst, frzK_dct, frzK_tup, qSeq, qIfS, qOr, qNot, qAnd, qTB, qCB, qCons, qNil, qTup, qLstF, qVar, qC, sl, bIsi, c2, c1, m0, m1, m2, res_tup, res_lst', res_int, res_str, res_bl, res_non, res_dct, res_ty, tyN, isStr, TL.isInt, TL.isTup, TL.isBool, TL.isLst, isN, isB, qIf, qChain, cLe, cLt, cGt, cGe, cEq, cNe, cEqV, cIn, cNotIn, cIsN, cNotN, n2, bLen, lenV, bInt, bTup, qNext, qRet, qRetN, qDrop, qAndV, qOrV, qNotV, qOp, aIx, aSub, aMul, aMod, aFdiv, uNeg, riAdd, riSub, qCall, qAsg, gtName, gtTup, gtCons, gtNil, iLst, iTp, qFor, TL.startT, List.replicate, List.map_cons, List.map_nil, List.length_cons, List.length_nil, List.cons_append, List.nil_append, List.append_nil, List.set_cons_succ, List.set_cons_zero, List.getElem?_cons_zero, List.getElem?_cons_succ, List.getD_cons_zero, List.getD_cons_succ, List.headD_cons, Option.isSome_some, Bool.not_true, Bool.not_false, Bool.false_eq_true, if_true, if_false, true_and, and_true, decide_eq_true_eq, decide_true, decide_false, Nat.zero_add, reduceIte, reduceCtorEq, qDict0]
      intro sd hsd
      have hsdg : g sd = none := pd_none S13 hsd
      have S14 : Sub g (gput g13 sd (.dct [])) := S13.put1 hsdg
      refine ⟨may.length, rfl, by omega, tL.sub S14, ?_⟩
      refine wFor_I (fun us δ g' => Sub g g' ∧ ∃ ls kvs x9, us = ls.map lsN ∧ (∀ l ∈ ls, l ∈ planN may.length) ∧ g' sd = some (.dct kvs) ∧ (kvs.all fun p => tupK p.1) = true ∧ kvs.length + ls.length ≤ 10000 ∧ (∀ l ∈ planN may.length, l ∈ ls ∨ look kvs (tpN l) = some (.bl (stG goal rs (chgT fs (pickT may l))))) ∧ δ = [some (.scr ns), some (.lst ([x0, x1, x2, x3, x4, x5].map T.str)), some (.lst every), some (.ref a10), some (.lst may), some goal, some (.lst rs), some (.lst fs), some (.ref sd), x9, none, none, none]) (fun _ _ _ _ => trivial) ?_ ?_ _ _ _
        ⟨S14, _, [], _, rfl, fun _ h => h, gput_same, rfl, ?_, fun l hl => .inl hl, rfl⟩
      · rintro t us δ g' ⟨hs, ls, kvs, x9, hus, hls, hd, hk, hlen, hdone, rfl⟩ K hK
        cases ls with
        | nil => cases hus
        | cons l ls =>
          simp only [List.map_cons, List.cons.injEq] at hus
          obtain ⟨rfl, rfl⟩ := hus
          have hlm := hls l (List.mem_cons_self ..)
          obtain ⟨hlt, hl8⟩ := plan_lt may.length (by omega) l hlm
          simp only [List.length_cons] at hlen
          simp only [qFrz_k, frzK_lst, frzK_dct, frzK_tup, qSeq, qIfS, qOr, qNot, qAnd, qTB, qCB, qCons, qNil, qTup, qLstF, qVar, qC, sl, bIsi, c2, c1, m0, m1, m2, res_tup, res_lst', res_int, res_str, res_bl, res_non, res_dct, res_ty, tyN, isStr, TL.isInt, TL.isTup, TL.isBool, TL.isLst, isN, isB, qIf, qChain, cLe, cLt, cGt, cGe, cEq, cNe, cEqV, cIn, cNotIn, cIsN, cNotN, n2, bLen, lenV, bInt, bTup, qNext, qRet, qRetN, qDrop, qAndV, qOrV, qNotV, qOp, aIx, aSub, aMul, aMod, aFdiv, uNeg, riAdd, riSub, qCall, qAsg, gtName, gtTup, gtCons, gtNil, iLst, iTp, qFor, TL.startT, List.replicate, List.map_cons, List.map_nil, List.length_cons, List.length_nil, List.cons_append, List.nil_append, List.append_nil, List.set_cons_succ, List.set_cons_zero, List.getElem?_cons_zero, List.getElem?_cons_succ, List.getD_cons_zero, List.getD_cons_succ, List.headD_cons, Option.isSome_some, Bool.not_true, Bool.not_false, Bool.false_eq_true, if_true, if_false, true_and, and_true, decide_eq_true_eq, decide_true, decide_false, Nat.zero_add, reduceIte, reduceCtorEq]
          refine lcK (F := pkF may) (ts := l.map fun (n : Nat) => T.int (n : Int)) (kp := yes) (fun R h => h) (fun _ _ => trivial) (fun t ht g'' K2 hs' hk' => ?_) (by rw [sizeLine_eq, List.length_map]; omega) ?_
          · obtain ⟨n, hn, rfl⟩ := List.mem_map.mp ht
            have hn' := hlt n hn
            have e1 : may[n]? = some may[n] := List.getElem?_eq_getElem hn'
            simp only [qFrz_k, frzK_lst, frzK_dct, frzK_tup, qSeq, qIfS, qOr, qNot, qAnd, qTB, qCB, qCons, qNil, qTup, qLstF, qVar, qC, sl, bIsi, c2, c1, m0, m1, m2, res_tup, res_lst', res_int, res_str, res_bl, res_non, res_dct, res_ty, tyN, isStr, TL.isInt, TL.isTup, TL.isBool, TL.isLst, isN, isB, qIf, qChain, cLe, cLt, cGt, cGe, cEq, cNe, cEqV, cIn, cNotIn, cIsN, cNotN, n2, bLen, lenV, bInt, bTup, qNext, qRet, qRetN, qDrop, qAndV, qOrV, qNotV, qOp, aIx, ixV, idx, aSub, aMul, aMod, aFdiv, uNeg, riAdd, riSub, qCall, qAsg, gtName, gtTup, gtCons, gtNil, iLst, iTp, qFor, TL.startT, List.replicate, List.map_cons, List.map_nil, List.length_cons, List.length_nil, List.cons_append, List.nil_append, List.append_nil, List.set_cons_succ, List.set_cons_zero, List.getElem?_cons_zero, List.getElem?_cons_succ, List.getD_cons_zero, List.getD_cons_succ, List.headD_cons, Option.isSome_some, Bool.not_true, Bool.not_false, Bool.false_eq_true, if_true, if_false, true_and, and_true, decide_eq_true_eq, decide_true, decide_false, Nat.zero_add, reduceIte, reduceCtorEq, wipeT, qYes, ↓idx_nat, e1]
            simp only [pkF, Int.toNat_natCast, e1] at hk'
            exact hk'
          · rw [pick_ls2]
            have hcs : ∀ t ∈ pickT may l, Fc t := fun t ht => hm t (mem_pick ht)
            have hcl : (pickT may l).length ≤ 8 := Nat.le_trans (List.length_filterMap_le _ _) hl8
            have hch : ∀ t ∈ chgT fs (pickT may l), Fc t := fun t ht => by
              rcases List.mem_append.mp ht with h | h
              · exact hf t (mem_less h)
              · exact hcs t (mem_less h)
            refine ⟨.lst fs, .lst (pickT may l), fs, pickT may l, rfl, rfl, rfl, fc_both hf, fc_both hcs, fcs_isDs hf, fcs_isDs hcs, by rw [sizeLine_eq]; omega, ?_⟩
            refine ⟨goal, rs, chgT fs (pickT may l), rfl, hR, hg, hch, ?_⟩
            simp only [qFrz_k, frzK_lst, frzK_dct, frzK_tup, qSeq, qIfS, qOr, qNot, qAnd, qTB, qCB, qCons, qNil, qTup, qLstF, qVar, qC, sl, bIsi, c2, c1, m0, m1, m2, res_tup, res_lst', res_int, res_str, res_bl, res_non, res_dct, res_ty, tyN, isStr, TL.isInt, TL.isTup, TL.isBool, TL.isLst, isN, isB, qIf, qChain, cLe, cLt, cGt, cGe, cEq, cNe, cEqV, cIn, cNotIn, cIsN, cNotN, n2, bLen, lenV, bInt, bTup, qNext, qRet, qRetN, qDrop, qAndV, qOrV, qNotV, qOp, aIx, aSub, aMul, aMod, aFdiv, uNeg, riAdd, riSub, qCall, qAsg, gtName, gtTup, gtCons, gtNil, iLst, iTp, qFor, TL.startT, List.replicate, List.map_cons, List.map_nil, List.length_cons, List.length_nil, List.cons_append, List.nil_append, List.append_nil, List.set_cons_succ, List.set_cons_zero, List.getElem?_cons_zero, List.getElem?_cons_succ, List.getD_cons_zero, List.getD_cons_succ, List.headD_cons, Option.isSome_some, Bool.not_true, Bool.not_false, Bool.false_eq_true, if_true, if_false, true_and, and_true, decide_eq_true_eq, decide_true, decide_false, Nat.zero_add, reduceIte, reduceCtorEq, gtSub, lsN]
            refine .inr ?_
            simp only [gd, hd]
            refine ⟨kOk_t (tpN_key l) hk, by rw [sizeLine_eq]; omega, ?_⟩
            refine hK _ _ ⟨hs.put1 hsdg, ls, _, _, rfl, fun u hu => hls u (List.mem_cons_of_mem _ hu), gput_same, putT_tup (tpN_key l) hk, ?_, fun m hm' => ?_, rfl⟩
            · have := putT_len kvs (.tup (l.map fun (n : Nat) => T.int (n : Int))) (.bl (stG goal rs (chgT fs (pickT may l))))
              omega
            · have e := look_putT (kvs := kvs) (k := tpN l) (v := .bl (stG goal rs (chgT fs (pickT may l)))) (x := tpN m)
              by_cases hml' : m = l
              · subst hml'
                rw [if_pos rfl] at e
                exact .inr e
              · rw [if_neg fun z => hml' (tpN_inj z)] at e
                rcases hdone m hm' with h | h
                · exact .inl ((List.mem_cons.mp h).resolve_left hml')
                · exact .inr (e.trans h)
      · rintro δ g' ⟨hs, ls, kvs, x9, hus, hls, hd, hk, hlen, hdone, rfl⟩
        cases ls with
        | cons l ls => cases hus
        | nil =>
          simp only [qFrz_k, frzK_lst, frzK_dct, frzK_tup, qSeq, qIfS, qOr, qNot, qAnd, qTB, qCB, qCons, qNil, qTup, qLstF, qVar, qC, sl, bIsi, c2, c1, m0, m1, m2, res_tup, res_lst', res_int, res_str, res_bl, res_non, res_dct, res_ty, tyN, isStr, TL.isInt, TL.isTup, TL.isBool, TL.isLst, isN, isB, qIf, qChain, cLe, cLt, cGt, cGe, cEq, cNe, cEqV, cIn, cNotIn, cIsN, cNotN, n2, bLen, lenV, bInt, bTup, qNext, qRet, qRetN, qDrop, qAndV, qOrV, qNotV, qOp, aIx, aSub, aMul, aMod, aFdiv, uNeg, riAdd, riSub, qCall, qAsg, gtName, gtTup, gtCons, gtNil, iLst, iTp, qFor, TL.startT, List.replicate, List.map_cons, List.map_nil, List.length_cons, List.length_nil, List.cons_append, List.nil_append, List.append_nil, List.set_cons_succ, List.set_cons_zero, List.getElem?_cons_zero, List.getElem?_cons_succ, List.getD_cons_zero, List.getD_cons_succ, List.headD_cons, Option.isSome_some, Bool.not_true, Bool.not_false, Bool.false_eq_true, if_true, if_false, true_and, and_true, decide_eq_true_eq, decide_true, decide_false, Nat.zero_add, reduceIte, reduceCtorEq]
          refine ⟨by rw [sizeLine_eq]; omega, ?_⟩
          refine wFor_I (fun us δ g'' => Sub g' g'' ∧ (∀ u ∈ us, ∃ b, u = .bl b) ∧ ∃ x10, δ = [some (.scr ns), some (.lst ([x0, x1, x2, x3, x4, x5].map T.str)), some (.lst every), some (.ref a10), some (.lst may), some goal, some (.lst rs), some (.lst fs), some (.ref sd), x9, x10, none, none]) (fun _ _ _ _ => trivial) ?_ ?_ _ _ _ ⟨Sub.refl, ?_, _, rfl⟩
          · rintro t us δ g'' ⟨hs2, hus, x10, rfl⟩ K hK
            obtain ⟨b, rfl⟩ := hus t (List.mem_cons_self ..)
            simp only [qFrz_k, frzK_lst, frzK_dct, frzK_tup, qSeq, qIfS, qOr, qNot, qAnd, qTB, qCB, qCons, qNil, qTup, qLstF, qVar, qC, sl, bIsi, c2, c1, m0, m1, m2, res_tup, res_lst', res_int, res_str, res_bl, res_non, res_dct, res_ty, tyN, isStr, TL.isInt, TL.isTup, TL.isBool, TL.isLst, isN, isB, qIf, qChain, cLe, cLt, cGt, cGe, cEq, cNe, cEqV, cIn, cNotIn, cIsN, cNotN, n2, bLen, lenV, bInt, bTup, qNext, qRet, qRetN, qDrop, qAndV, qOrV, qNotV, qOp, aIx, aSub, aMul, aMod, aFdiv, uNeg, riAdd, riSub, qCall, qAsg, gtName, gtTup, gtCons, gtNil, iLst, iTp, qFor, TL.startT, List.replicate, List.map_cons, List.map_nil, List.length_cons, List.length_nil, List.cons_append, List.nil_append, List.append_nil, List.set_cons_succ, List.set_cons_zero, List.getElem?_cons_zero, List.getElem?_cons_succ, List.getD_cons_zero, List.getD_cons_succ, List.headD_cons, Option.isSome_some, Bool.not_true, Bool.not_false, Bool.false_eq_true, if_true, if_false, true_and, and_true, decide_eq_true_eq, decide_true, decide_false, Nat.zero_add, reduceIte, reduceCtorEq]
            refine ⟨sd, kvs, may, b, fun l => stG goal rs (chgT fs (pickT may l)), rfl, hs2 _ _ hd, hk, fun l hl => (hdone l hl).resolve_left (by simp), hml, tL.sub (hs.trans hs2), ?_⟩
            refine ⟨goal, rs, fs, may, b, rfl, hR, hg, hne, hf, by omega, hm, hml, tB.sub (hs.trans hs2), fun g3 hs3 => ?_⟩
            simp only [qFrz_k, frzK_lst, frzK_dct, frzK_tup, qSeq, qIfS, qOr, qNot, qAnd, qTB, qCB, qCons, qNil, qTup, qLstF, qVar, qC, sl, bIsi, c2, c1, m0, m1, m2, res_tup, res_lst', res_int, res_str, res_bl, res_non, res_dct, res_ty, tyN, isStr, TL.isInt, TL.isTup, TL.isBool, TL.isLst, isN, isB, qIf, qChain, cLe, cLt, cGt, cGe, cEq, cNe, cEqV, cIn, cNotIn, cIsN, cNotN, n2, bLen, lenV, bInt, bTup, qNext, qRet, qRetN, qDrop, qAndV, qOrV, qNotV, qOp, aIx, aSub, aMul, aMod, aFdiv, uNeg, riAdd, riSub, qCall, qAsg, gtName, gtTup, gtCons, gtNil, iLst, iTp, qFor, TL.startT, List.replicate, List.map_cons, List.map_nil, List.length_cons, List.length_nil, List.cons_append, List.nil_append, List.append_nil, List.set_cons_succ, List.set_cons_zero, List.getElem?_cons_zero, List.getElem?_cons_succ, List.getD_cons_zero, List.getD_cons_succ, List.headD_cons, Option.isSome_some, Bool.not_true, Bool.not_false, Bool.false_eq_true, if_true, if_false, true_and, and_true, decide_eq_true_eq, decide_true, decide_false, Nat.zero_add, reduceIte, reduceCtorEq]
            exact hK _ _ ⟨hs2.trans hs3, fun u hu => hus u (List.mem_cons_of_mem _ hu), _, rfl⟩
          · rintro δ g'' ⟨hs2, hus, x10, rfl⟩
            exact q g''
          · intro u hu
            simp only [List.mem_cons, List.not_mem_nil, or_false] at hu
            rcases hu with rfl | rfl <;> exact ⟨_, rfl⟩
      · have h1 : ∀ m < 9, (planN m).length ≤ 256 := by decide +kernel
        have := h1 may.length (by omega)
        simp only [List.length_nil]
        omega
    -- the goal told, or one that may be changed
    subst hrest
    simp only [qSeq, qIfS, qTB, qOp, qCall, qCons, qNil, qVar, qC, sl, List.append_nil]
    refine ⟨a10, 6, rfl, L11, by omega, by omega, fun b g12 s12 L12 hb0 hb1 => ?_⟩
    have c12 := s12 pc _ hpa10 c11
    have S12 : Sub1 a10 g g12 := S11.trans s12
    simp only [cEq, cEqV, res_int, isB, decide_eq_true_eq, qNext]
    have mid : ∀ (fs : List T) (g12 : G), (∀ t ∈ fs, Fc t) → fs.length ≤ 10 → Sub1 a10 g g12 → Lf g12 a10 → g12 pc = some (.lst may) →
        qSeq (qIfS (qTB (qOp cEq (qCall sp_pick [] (qCons (qVar 3) (qCons (qC (.int 4)) qNil))) (qC (.int 0)))) (qAsg (qVar 5) (gtSub (qVar 4) (qCall sp_pick [] (qCons (qVar 3) (qCons (qCB bLen (qCons (qVar 4) qNil)) qNil))))) qNext) (qFz 4 (qSeq (qAsg qDict0 (gtName 8)) (qSeq (qFor (iLst (qCall (sp_parts P2) [] (qCons (qCB bLen (qCons (qVar 4) qNil)) qNil))) (gtName 9) (qAsg (qCall sp_lstands [] (qCons (qVar 6) (qCons (qCall sp_changed [] (qCons (qVar 7) (qCons (qFrz (qLc [12] (iLst (qVar 9)) (gtName 12) qYes (qOp aIx (qVar 4) (qVar 12)))) qNil))) (qCons (qVar 5) qNil)))) (gtSub (qVar 8) (qCB bTup (qCons (qVar 9) qNil))))) (qSeq (qFor (iTp (qTup (qCons (qC (.bl true)) (qCons (qC (.bl false)) qNil)))) (gtName 10) (qIfS (qNot (qTB (qCall (sp_right P1) [] (qCons (qVar 6) (qCons (qVar 7) (qCons (qVar 5) (qCons (qVar 4) (qCons (qVar 10) (qCons (qCall (sp_due P2) [] (qCons (qVar 8) (qCons (qVar 4) (qCons (qVar 10) qNil)))) qNil))))))))) (qRet (qC (.bl false))) qNext)) (qRet (qC (.bl true)))))))
          { nx := fun _ g' => Q .non g', rt := Q } [some (.scr ns), some (.lst ([x0, x1, x2, x3, x4, x5].map T.str)), some (.lst every), some (.ref a10), some (.ref pc), some goal, some (.lst rs), some (.lst fs), none, none, none, none, none] g12 := by
      intro fs g12 hf hfl S12 L12 c12
      simp only [qSeq, qIfS, qTB, qOp, qCall, qCons, qNil, qVar, qC, sl, List.append_nil]
      refine ⟨a10, 4, rfl, L12, by omega, by omega, fun b g13 s13 L13 hb0 hb1 => ?_⟩
      have c13 := s13 pc _ hpa10 c12
      have S13 : Sub1 a10 g g13 := S12.trans s13
      simp only [cEq, cEqV, res_int, isB, decide_eq_true_eq, qNext]
      split
      · simp only [qAsg, gtSub, qVar, sl, qCall, qCons, qNil, qCB, bLen, c1, res_refL c13, lenV, List.append_nil]
        refine ⟨a10, ((may.length : Nat) : Int), rfl, L13, by omega, by omega, fun j g14 s14 L14 hj0 hj1 => ?_⟩
        have c14 := s14 pc _ hpa10 c13
        obtain ⟨jn, rfl⟩ := Int.eq_ofNat_of_zero_le hj0
        have hjn : jn < may.length := by omega
        refine .inl ⟨pc, may, jn, ((jn : Nat) : Int), rfl, c14, rfl, ?_, ?_⟩
        · show (if jn < may.length then some jn else none) = some jn
          rw [if_pos hjn]
        · refine tail fs _ (may.set jn goal) hf hfl (fun t ht => ?_) (by rw [List.length_set]; omega) ((S13.trans s14).putp hpcg) gput_same
          rcases List.mem_or_eq_of_mem_set ht with h | h
          · exact hmf t h
          · rw [h]; exact hg
      · exact tail fs g13 may hf hfl hmf (by omega) S13 c13
    split
    · simp only [qAsg, qFrz_k, qOp, qVar, sl, qLstF, qCons, qNil, aAdd, res_lst', gtName, List.length_cons, List.length_nil]
      refine ⟨by rw [sizeLine_eq]; omega, by rw [sizeLine_eq]; omega, fun p hp => ?_⟩
      rw [frzK_putL hp]
      refine mid _ _ (fun t ht => ?_) (by simp; omega) S12 L12 c12
      rcases List.mem_append.mp ht with h | h
      · exact hfa t h
      · simp only [List.mem_cons, List.not_mem_nil, or_false, or_self] at h
        rw [h]; exact hg
    · exact mid acc _ hfa (by omega) S12 L12 c12
end K82
set_option Elab.async false
set_option linter.all false
set_option maxRecDepth 100000
set_option maxHeartbeats 4000000
/-! printed by chain82.py: each def keeps its promise -/
namespace K82
open PySem PySem.Spec L2 PyProof.Rows TL
structure HasAll (K : PySem.W.Frag) (mg : PySem.Str → Option Value) : Prop where
  h_is_word : Has K mg s_is_word "is_word" ["thing"] (He.fAd K ("is_word", none))
  h_is_number : Has K mg s_is_number "is_number" ["thing"] (He.fAd K ("is_number", none))
  h_is_headed : Has K mg s_is_headed "is_headed" ["thing"] (He.fAd K ("is_headed", none))
  h_is_within : Has K mg s_is_within "is_within" ["thing", "deep"] (He.fAd K ("is_within", none))
  h_is_thing : Has K mg s_is_thing "is_thing" ["thing"] (He.fAd K ("is_thing", none))
  h_is_fact : Has K mg s_is_fact "is_fact" ["thing"] (He.fAd K ("is_fact", none))
  h_rank : Has K mg s_rank "rank" ["thing"] (He.fAd K ("rank", none))
  h_ordered : Has K mg s_ordered "ordered" ["things"] (He.fAd K ("ordered", none))
  h_is_name : Has K mg s_is_name "is_name" ["thing"] (He.fAd K ("is_name", none))
  h_filled : Has K mg s_filled "filled" ["filling", "pattern"] (He.fAd K ("filled", none))
  h_order_key : Has K mg s_order_key "order_key" ["thing"] (He.fAd K ("order_key", none))
  h_holds : Has K mg s_holds "holds" ["part", "filling", "had"] (He.fAd K ("holds", none))
  h_names_within : Has K mg s_names_within "names_within" ["pattern"] (He.fAd K ("names_within", none))
  h_gone_on : Has K mg s_gone_on "gone_on" ["part", "filling", "had"] (He.fAd K ("gone_on", none))
  h_each_once : Has K mg s_each_once "each_once" ["had"] (He.fAd K ("each_once", none))
  h_names_sorted : Has K mg s_names_sorted "names_sorted" ["body"] (He.fAd K ("names_sorted", none))
  h_bindings : Has K mg s_bindings "bindings" ["body", "had"] (He.fAd K ("bindings", none))
  h_gives : Has K mg s_gives "gives" ["rule", "had"] (He.fAd K ("gives", none))
  h_shape_of : Has K mg s_shape_of "shape_of" ["atom"] (He.fAd K ("shape_of", none))
  h_rule_shape : Has K mg s_rule_shape "rule_shape" ["rule"] (He.fAd K ("rule_shape", none))
  h_looked_at : Has K mg s_looked_at "looked_at" ["rule"] (He.fAd K ("looked_at", none))
  h_two_of_one_shape : Has K mg s_two_of_one_shape "two_of_one_shape" ["rules"] (He.fAd K ("two_of_one_shape", none))
  h_way_of_rules : Has K mg s_way_of_rules "way_of_rules" ["rules", "begin", "goal"] (He.fAd K ("way_of_rules", none))
  h_ring_of_rules : Has K mg s_ring_of_rules "ring_of_rules" ["rules"] (He.fAd K ("ring_of_rules", none))
  h_bar : Has K mg s_bar "bar" ["rules"] (He.fAd K ("bar", none))
  h_layers : Has K mg s_layers "layers" ["rules"] (He.fAd K ("layers", none))
  h_take_in : Has K mg s_take_in "take_in" ["found", "facts", "age"] (He.fAd K ("take_in", none))
  h_go_on : Has K mg s_go_on "go_on" ["some", "found"] (He.fAd K ("go_on", none))
  h_ages : Has K mg s_ages "ages" ["rules", "facts"] (He.fAd K ("ages", none))
  h_follows : Has K mg s_follows "follows" ["rules", "facts"] (He.fAd K ("follows", none))
  h_rising : Has K mg s_rising "rising" ["first", "many", "size"] (He.fAd K ("rising", none))
  h_changed : Has K mg s_changed "changed" ["facts", "change"] (He.fAd K ("changed", none))
  h_goal_stands : Has K mg s_goal_stands "goal_stands" ["rules", "facts", "goal"] (He.fAd K ("goal_stands", none))
  h_mend : ∃ fd, FunD K "mend" "mend" (defArgs s_mend) (defBody s_mend) (defScope s_mend) [V.bl true] [] (He.fAd K ("mend", none)) fd ∧ mg "mend" = some (.ref (He.fAd K ("mend", none)))
  h__law_cell_at : Has K mg s__law_cell_at "_law_cell_at" ["script", "k"] (He.fAd K ("_law_cell_at", none))
  h__law_left : Has K mg s__law_left "_law_left" ["script", "k"] (He.fAd K ("_law_left", none))
  h__law_pick : Has K mg s__law_pick "_law_pick" ["left", "many"] (He.fAd K ("_law_pick", none))
  h__law_words : Has K mg s__law_words "_law_words" ["left"] (He.fAd K ("_law_words", none))
  h__law_constants : Has K mg s__law_constants "_law_constants" ["left", "words"] (He.fAd K ("_law_constants", none))
  h__law_parts : Has K mg s__law_parts "_law_parts" ["many"] (He.fAd K ("_law_parts", none))
  h__law_changed : Has K mg s__law_changed "_law_changed" ["facts", "change"] (He.fAd K ("_law_changed", none))
  h__law_due : Has K mg s__law_due "_law_due" ["stands", "may", "wish"] (He.fAd K ("_law_due", none))
  h__law_same : Has K mg s__law_same "_law_same" ["found", "due"] (He.fAd K ("_law_same", none))
  h__law_asked : Has K mg s__law_asked "_law_asked" ["rules", "facts", "goal", "may", "wish"] (He.fAd K ("_law_asked", none))
  h__law_right : Has K mg s__law_right "_law_right" ["rules", "facts", "goal", "may", "wish", "due"] (He.fAd K ("_law_right", none))
  h__law_eight : Has K mg s__law_eight "_law_eight" ["words", "constants"] (He.fAd K ("_law_eight", none))
  h__law_mixed_up : Has K mg s__law_mixed_up "_law_mixed_up" ["left", "facts"] (He.fAd K ("_law_mixed_up", none))
  h__law_some_rules : Has K mg s__law_some_rules "_law_some_rules" ["left", "facts", "goal"] (He.fAd K ("_law_some_rules", none))
  h__law_stands : Has K mg s__law_stands "_law_stands" ["rules", "facts", "goal"] (He.fAd K ("_law_stands", none))
  h_law : Has K mg s_law "law" ["script"] (He.fAd K ("law", none))
section
variable {P : Program} {w : World} {K : PySem.W.Frag} {mg : PySem.Str → Option Value} {base : Heap} {P1 P2 : Addr}
theorem C_is_word (T : Txt mg) (HA : HasAll K mg) : Cal P w K mg base 1 "is_word" ["thing"] [] sp_word := calD (k := 0) HA.h_is_word S_is_word (fun _ _ _ _ _ _ hr => d_is_word (k := 0) T   hr) (fun ds g Q E h => h.1) (fun ds g Q h => p_is_word ds g Q h) (fun _ _ _ _ h => h)
theorem C_is_number (T : Txt mg) (HA : HasAll K mg) : Cal P w K mg base 1 "is_number" ["thing"] [] sp_number := calD (k := 0) HA.h_is_number S_is_number (fun _ _ _ _ _ _ hr => d_is_number (k := 0) T   hr) (fun ds g Q E h => h.1) (fun ds g Q h => p_is_number ds g Q h) (fun _ _ _ _ h => h)
theorem C_is_headed (T : Txt mg) (HA : HasAll K mg) : Cal P w K mg base 4 "is_headed" ["thing"] [] sp_headed := calD (k := 3) HA.h_is_headed S_is_headed (fun _ _ _ _ _ _ hr => d_is_headed (k := 3) T (C_is_word (P := P) (w := w) (base := base) T HA) (by omega) hr) (fun ds g Q E h => h.1) (fun ds g Q h => p_is_headed ds g Q h) (fun _ _ _ _ h => h)
theorem C_is_within (T : Txt mg) (HA : HasAll K mg) : ∀ n, Cal P w K mg base (4 + 3 * n) "is_within" ["thing", "deep"] [] (sp_within n)
  | 0 => (cal0 HA.h_is_within).imp fun ds g Q E h => by obtain ⟨_, ⟨_, _, _, _, hd⟩, _⟩ := h; omega
  | n + 1 => calD (k := 4 + 3 * n + 2) HA.h_is_within S_is_within (fun _ _ _ _ _ _ hr => d_is_within T (C_is_number (P := P) (w := w) (base := base) T HA) (C_is_headed (P := P) (w := w) (base := base) T HA) (C_is_within T HA n) (by omega) (by omega) (by omega) hr) (fun ds g Q E h => h.1) (fun ds g Q h => p_is_within n ds g Q h) (fun _ _ _ _ h => h)
theorem C_is_thing (T : Txt mg) (HA : HasAll K mg) : Cal P w K mg base 28 "is_thing" ["thing"] [] sp_thing := calD (k := 27) HA.h_is_thing S_is_thing (fun _ _ _ _ _ _ hr => d_is_thing (k := 27) T (C_is_within (P := P) (w := w) (base := base) T HA 7) (by omega) hr) (fun ds g Q E h => h.1) (fun ds g Q h => p_is_thing ds g Q h) (fun _ _ _ _ h => h)
theorem C_is_fact (T : Txt mg) (HA : HasAll K mg) : Cal P w K mg base 31 "is_fact" ["thing"] [] sp_fact := calD (k := 30) HA.h_is_fact S_is_fact (fun _ _ _ _ _ _ hr => d_is_fact (k := 30) T (C_is_thing (P := P) (w := w) (base := base) T HA) (by omega) hr) (fun ds g Q E h => h.1) (fun ds g Q h => p_is_fact ds g Q h) (fun _ _ _ _ h => h)
theorem C_rank (T : Txt mg) (HA : HasAll K mg) : ∀ n, Cal P w K mg base (0 + 3 * n) "rank" ["thing"] [] (sp_rank n)
  | 0 => (cal0 HA.h_rank).imp fun ds g Q E h => by obtain ⟨_, ⟨_, _, _, _, hd⟩, _⟩ := h; omega
  | n + 1 => calD (k := 0 + 3 * n + 2) HA.h_rank S_rank (fun _ _ _ _ _ _ hr => d_rank T (C_rank T HA n) (by omega) hr) (fun ds g Q E h => h.1) (fun ds g Q h => p_rank n ds g Q h) (fun _ _ _ _ h => h)
theorem C_ordered (T : Txt mg) (HA : HasAll K mg) : Cal P w K mg base 24 "ordered" ["things"] [] sp_ordered := calD (k := 23) HA.h_ordered S_ordered (fun _ _ _ _ _ _ hr => d_ordered (k := 23) T (C_rank (P := P) (w := w) (base := base) T HA 7) (by omega) hr) (fun ds g Q E h => by obtain ⟨_, _, rfl, _⟩ := h; rfl) (fun ds g Q h => p_ordered ds g Q h) (fun _ _ _ _ h => h)
theorem C_is_name (T : Txt mg) (HA : HasAll K mg) : Cal P w K mg base 1 "is_name" ["thing"] [] sp_name := calD (k := 0) HA.h_is_name S_is_name (fun _ _ _ _ _ _ hr => d_is_name (k := 0) T   hr) (fun ds g Q E h => h.1) (fun ds g Q h => p_is_name ds g Q h) (fun _ _ _ _ h => h)
theorem C_filled (T : Txt mg) (HA : HasAll K mg) : ∀ n, Cal P w K mg base (0 + 3 * n) "filled" ["filling", "pattern"] [] (sp_filled n)
  | 0 => (cal0 HA.h_filled).imp fun ds g Q E h => by obtain ⟨_, ⟨_, _, _, _, _, hd⟩, _⟩ := h; omega
  | n + 1 => calD (k := 0 + 3 * n + 2) HA.h_filled S_filled (fun _ _ _ _ _ _ hr => d_filled T (C_filled T HA n) (by omega) hr) (fun ds g Q E h => h.1) (fun ds g Q h => p_filled n ds g Q h) (fun _ _ _ _ h => h)
theorem C_order_key (T : Txt mg) (HA : HasAll K mg) : ∀ n, Cal P w K mg base (0 + 3 * n) "order_key" ["thing"] [] (sp_rank n)
  | 0 => (cal0 HA.h_order_key).imp fun ds g Q E h => by obtain ⟨_, ⟨_, _, _, _, hd⟩, _⟩ := h; omega
  | n + 1 => calD (k := 0 + 3 * n + 2) HA.h_order_key S_order_key (fun _ _ _ _ _ _ hr => d_order_key T (C_order_key T HA n) (by omega) hr) (fun ds g Q E h => h.1) (fun ds g Q h => p_order_key n ds g Q h) (fun _ _ _ _ h => h)
theorem C_holds (T : Txt mg) (HA : HasAll K mg) : Cal P w K mg base 24 "holds" ["part", "filling", "had"] [] sp_holds := calD (k := 23) HA.h_holds S_holds (fun _ _ _ _ _ _ hr => d_holds (k := 23) T (C_filled (P := P) (w := w) (base := base) T HA 7) (by omega) hr) (fun ds g Q E h => by obtain ⟨_, _, _, _, _, rfl, _⟩ := h; rfl) (fun ds g Q h => p_holds ds g Q h) (fun _ _ _ _ h => h)
theorem C_names_within (T : Txt mg) (HA : HasAll K mg) : ∀ n, Cal P w K mg base (1 + 3 * n) "names_within" ["pattern"] [] (sp_names n)
  | 0 => (cal0 HA.h_names_within).imp fun ds g Q E h => by obtain ⟨_, ⟨_, _, _, _, hd⟩, _⟩ := h; omega
  | n + 1 => calD (k := 1 + 3 * n + 2) HA.h_names_within S_names_within (fun _ _ _ _ _ _ hr => d_names_within T (C_is_name (P := P) (w := w) (base := base) T HA) (C_names_within T HA n) (by omega) (by omega) hr) (fun ds g Q E h => h.1) (fun ds g Q h => p_names_within n ds g Q h) (fun _ _ _ _ h => h)
theorem C_gone_on (T : Txt mg) (HA : HasAll K mg) : Cal P w K mg base 27 "gone_on" ["part", "filling", "had"] [] sp_gone := calD (k := 26) HA.h_gone_on S_gone_on (fun _ _ _ _ _ _ hr => d_gone_on (k := 26) T (C_filled (P := P) (w := w) (base := base) T HA 7) (C_names_within (P := P) (w := w) (base := base) T HA 7) (C_holds (P := P) (w := w) (base := base) T HA) (by omega) (by omega) (by omega) hr) (fun ds g Q E h => by obtain ⟨_, _, _, _, rfl, _⟩ := h; rfl) (fun ds g Q h => p_gone_on ds g Q h) (fun _ _ _ _ h => h)
theorem C_each_once (T : Txt mg) (HA : HasAll K mg) : Cal P w K mg base 1 "each_once" ["had"] [] sp_once := calD (k := 0) HA.h_each_once S_each_once (fun _ _ _ _ _ _ hr => d_each_once (k := 0) T   hr) (fun ds g Q E h => by obtain ⟨_, rfl, _⟩ := h; rfl) (fun ds g Q h => p_each_once ds g Q h) (fun _ _ _ _ h => h)
theorem C_names_sorted (T : Txt mg) (HA : HasAll K mg) : Cal P w K mg base 25 "names_sorted" ["body"] [] sp_nsorted := calD (k := 24) HA.h_names_sorted S_names_sorted (fun _ _ _ _ _ _ hr => d_names_sorted (k := 24) T (C_names_within (P := P) (w := w) (base := base) T HA 7) (by omega) hr) (fun ds g Q E h => by obtain ⟨_, rfl, _⟩ := h; rfl) (fun ds g Q h => p_names_sorted ds g Q h) (fun _ _ _ _ h => h)
theorem C_bindings (T : Txt mg) (HA : HasAll K mg) (TB1 : LamX.TabB base mg (He.codeOf K ("bindings", none)) P1) : Cal P w K mg base 33 "bindings" ["body", "had"] [] (sp_bind P1) := calC (k := 32) (p := ("bindings", none)) HA.h_bindings S_bindings (fun _ _ _ _ _ hr => d_bindings (k := 29) T (C_each_once (P := P) (w := w) (base := base) T HA) (C_gone_on (P := P) (w := w) (base := base) T HA) (C_names_sorted (P := P) (w := w) (base := base) T HA) (C_order_key (P := P) (w := w) (base := base) T HA 7) TB1 (by omega) (by omega) (by omega) (by omega) hr) (fun ds g Q E h => by obtain ⟨_, _, rfl, _⟩ := h; rfl) (fun ds g Q h => p_bindings P1 ds g Q h) (fun _ _ _ _ h => h)
theorem C_gives (T : Txt mg) (HA : HasAll K mg) (TB1 : LamX.TabB base mg (He.codeOf K ("bindings", none)) P1) : Cal P w K mg base 36 "gives" ["rule", "had"] [] (sp_gives P1) := calD (k := 35) HA.h_gives S_gives (fun _ _ _ _ _ _ hr => d_gives (k := 35) T (C_bindings (P := P) (w := w) (base := base) T HA TB1) (C_filled (P := P) (w := w) (base := base) T HA 7) (C_ordered (P := P) (w := w) (base := base) T HA) (C_is_fact (P := P) (w := w) (base := base) T HA) (by omega) (by omega) (by omega) (by omega) hr) (fun ds g Q E h => by obtain ⟨_, _, _, rfl, _⟩ := h; rfl) (fun ds g Q h => p_gives P1 ds g Q h) (fun _ _ _ _ h => h)
theorem C_shape_of (T : Txt mg) (HA : HasAll K mg) : Cal P w K mg base 1 "shape_of" ["atom"] [] sp_shape := calD (k := 0) HA.h_shape_of S_shape_of (fun _ _ _ _ _ _ hr => d_shape_of (k := 0) T   hr) (fun ds g Q E h => h.1) (fun ds g Q h => p_shape_of ds g Q h) (fun _ _ _ _ h => h)
theorem C_rule_shape (T : Txt mg) (HA : HasAll K mg) : Cal P w K mg base 4 "rule_shape" ["rule"] [] sp_rshape := calD (k := 3) HA.h_rule_shape S_rule_shape (fun _ _ _ _ _ _ hr => d_rule_shape (k := 3) T (C_shape_of (P := P) (w := w) (base := base) T HA) (by omega) hr) (fun ds g Q E h => h.1) (fun ds g Q h => p_rule_shape ds g Q h) (fun _ _ _ _ h => h)
theorem C_looked_at (T : Txt mg) (HA : HasAll K mg) : Cal P w K mg base 4 "looked_at" ["rule"] [] sp_looked := calD (k := 3) HA.h_looked_at S_looked_at (fun _ _ _ _ _ _ hr => d_looked_at (k := 3) T (C_shape_of (P := P) (w := w) (base := base) T HA) (by omega) hr) (fun ds g Q E h => by obtain ⟨_, _, rfl, _⟩ := h; rfl) (fun ds g Q h => p_looked_at ds g Q h) (fun _ _ _ _ h => h)
theorem C_two_of_one_shape (T : Txt mg) (HA : HasAll K mg) : Cal P w K mg base 7 "two_of_one_shape" ["rules"] [] sp_two := calD (k := 6) HA.h_two_of_one_shape S_two_of_one_shape (fun _ _ _ _ _ _ hr => d_two_of_one_shape (k := 6) T (C_rule_shape (P := P) (w := w) (base := base) T HA) (by omega) hr) (fun ds g Q E h => by obtain ⟨_, _, rfl, _⟩ := h; rfl) (fun ds g Q h => p_two ds g Q h) (fun _ _ _ _ h => h)
theorem C_way_of_rules (T : Txt mg) (HA : HasAll K mg) : Cal P w K mg base 7 "way_of_rules" ["rules", "begin", "goal"] [] sp_way := calD (k := 6) HA.h_way_of_rules S_way_of_rules (fun _ _ _ _ _ _ hr => d_way_of_rules (k := 6) T (C_rule_shape (P := P) (w := w) (base := base) T HA) (C_looked_at (P := P) (w := w) (base := base) T HA) (by omega) (by omega) hr) (fun ds g Q E h => by obtain ⟨_, _, _, rfl, _⟩ := h; rfl) (fun ds g Q h => p_way ds g Q h) (fun _ _ _ _ h => h)
theorem C_ring_of_rules (T : Txt mg) (HA : HasAll K mg) : Cal P w K mg base 10 "ring_of_rules" ["rules"] [] sp_none := calD (k := 9) HA.h_ring_of_rules S_ring_of_rules (fun _ _ _ _ _ _ hr => d_ring_of_rules (k := 9) T (C_looked_at (P := P) (w := w) (base := base) T HA) (C_way_of_rules (P := P) (w := w) (base := base) T HA) (C_rule_shape (P := P) (w := w) (base := base) T HA) (by omega) (by omega) (by omega) hr) (fun ds g Q E h => by obtain ⟨_, _, rfl, _⟩ := h; rfl) (fun ds g Q h => p_ring ds g Q h) (fun _ _ _ _ h => h)
theorem C_bar (T : Txt mg) (HA : HasAll K mg) : Cal P w K mg base 13 "bar" ["rules"] [] sp_none := calD (k := 12) HA.h_bar S_bar (fun _ _ _ _ _ _ hr => d_bar (k := 12) T (C_two_of_one_shape (P := P) (w := w) (base := base) T HA) (C_ring_of_rules (P := P) (w := w) (base := base) T HA) (by omega) (by omega) hr) (fun ds g Q E h => by obtain ⟨_, _, rfl, _⟩ := h; rfl) (fun ds g Q h => p_bar ds g Q h) (fun _ _ _ _ h => h)
theorem C_layers (T : Txt mg) (HA : HasAll K mg) : Cal P w K mg base 16 "layers" ["rules"] [] sp_layers := calD (k := 15) HA.h_layers S_layers (fun _ _ _ _ _ _ hr => d_layers (k := 15) T (C_bar (P := P) (w := w) (base := base) T HA) (C_rule_shape (P := P) (w := w) (base := base) T HA) (C_looked_at (P := P) (w := w) (base := base) T HA) (by omega) (by omega) (by omega) hr) (fun ds g Q E h => by obtain ⟨_, _, rfl, _⟩ := h; rfl) (fun ds g Q h => p_layers ds g Q h) (fun _ _ _ _ h => h)
theorem C_take_in (T : Txt mg) (HA : HasAll K mg) : Cal P w K mg base 1 "take_in" ["found", "facts", "age"] [] sp_take := calD (k := 0) HA.h_take_in S_take_in (fun _ _ _ _ _ _ hr => d_take_in (k := 0) T   hr) (fun ds g Q E h => by obtain ⟨_, _, _, _, rfl, _⟩ := h; rfl) (fun ds g Q h => p_take_in ds g Q h) (fun _ _ _ _ h => h)
theorem C_go_on (T : Txt mg) (HA : HasAll K mg) (TB1 : LamX.TabB base mg (He.codeOf K ("bindings", none)) P1) : Cal P w K mg base 39 "go_on" ["some", "found"] [] (sp_goon P1) := calD (k := 38) HA.h_go_on S_go_on (fun _ _ _ _ _ _ hr => d_go_on (k := 38) T (C_take_in (P := P) (w := w) (base := base) T HA) (C_gives (P := P) (w := w) (base := base) T HA TB1) (by omega) (by omega) hr) (fun ds g Q E h => by obtain ⟨_, _, _, _, rfl, _⟩ := h; rfl) (fun ds g Q h => p_go_on P1 ds g Q h) (fun _ _ _ _ h => h)
theorem C_ages (T : Txt mg) (HA : HasAll K mg) (TB1 : LamX.TabB base mg (He.codeOf K ("bindings", none)) P1) : Cal P w K mg base 42 "ages" ["rules", "facts"] [] (sp_ages P1) := calD (k := 41) HA.h_ages S_ages (fun _ _ _ _ _ _ hr => d_ages (k := 41) T (C_layers (P := P) (w := w) (base := base) T HA) (C_take_in (P := P) (w := w) (base := base) T HA) (C_go_on (P := P) (w := w) (base := base) T HA TB1) (C_rule_shape (P := P) (w := w) (base := base) T HA) (by omega) (by omega) (by omega) (by omega) hr) (fun ds g Q E h => by obtain ⟨_, _, _, rfl, _⟩ := h; rfl) (fun ds g Q h => p_ages P1 ds g Q h) (fun _ _ _ _ h => h)
theorem C_follows (T : Txt mg) (HA : HasAll K mg) (TB1 : LamX.TabB base mg (He.codeOf K ("bindings", none)) P1) : Cal P w K mg base 45 "follows" ["rules", "facts"] [] (sp_follows P1) := calD (k := 44) HA.h_follows S_follows (fun _ _ _ _ _ _ hr => d_follows (k := 44) T (C_ordered (P := P) (w := w) (base := base) T HA) (C_ages (P := P) (w := w) (base := base) T HA TB1) (by omega) (by omega) hr) (fun ds g Q E h => by obtain ⟨_, _, _, rfl, _⟩ := h; rfl) (fun ds g Q h => p_follows P1 ds g Q h) (fun _ _ _ _ h => h)
theorem C_rising (T : Txt mg) (HA : HasAll K mg) : ∀ n, Cal P w K mg base (0 + 3 * n) "rising" ["first", "many", "size"] [] (sp_rising n)
  | 0 => (cal0 HA.h_rising).imp fun ds g Q E h => by obtain ⟨_, _, _, _, _, _, hd, _⟩ := h; omega
  | n + 1 => calD (k := 0 + 3 * n + 2) HA.h_rising S_rising (fun _ _ _ _ _ _ hr => d_rising T (C_rising T HA n) (by omega) hr) (fun ds g Q E h => by obtain ⟨_, _, _, rfl, _⟩ := h; rfl) (fun ds g Q h => p_rising n ds g Q h) (fun _ _ _ _ h => h)
theorem C_changed (T : Txt mg) (HA : HasAll K mg) : Cal P w K mg base 1 "changed" ["facts", "change"] [] sp_changed := calD (k := 0) HA.h_changed S_changed (fun _ _ _ _ _ _ hr => d_changed (k := 0) T   hr) (fun ds g Q E h => by obtain ⟨_, _, _, _, rfl, _⟩ := h; rfl) (fun ds g Q h => p_changed ds g Q h) (fun _ _ _ _ h => h)
theorem C_goal_stands (T : Txt mg) (HA : HasAll K mg) (TB1 : LamX.TabB base mg (He.codeOf K ("bindings", none)) P1) : Cal P w K mg base 48 "goal_stands" ["rules", "facts", "goal"] [] (sp_stands P1) := calD (k := 47) HA.h_goal_stands S_goal_stands (fun _ _ _ _ _ _ hr => d_goal_stands (k := 47) T (C_follows (P := P) (w := w) (base := base) T HA TB1) (by omega) hr) (fun ds g Q E h => by obtain ⟨_, _, _, rfl, _⟩ := h; rfl) (fun ds g Q h => p_goal_stands P1 ds g Q h) (fun _ _ _ _ h => h)
theorem C_mend (T : Txt mg) (HA : HasAll K mg) (TB1 : LamX.TabB base mg (He.codeOf K ("bindings", none)) P1) : Cal P w K mg base 51 "mend" ["rules", "facts", "goal", "may", "wish"] [] (sp_mend P1) := by
  obtain ⟨fd, F, nm⟩ := HA.h_mend
  obtain ⟨ds, rv, B⟩ := F.binds1 (ps := ["rules", "facts", "goal", "may", "wish"]) 5 1 (by simp) rfl (fun T kV doc pm an cdv ct us its hl h2 => match us, its, hl, h2 with | [_, _, _, _, _], [_], _, _ => ⟨_, rfl, rfl⟩)
  exact calW (k := 50) F nm B rv (fun _ _ => .nil) S_mend (fun _ _ _ _ _ _ hr => d_mend (k := 50) T (C_layers (P := P) (w := w) (base := base) T HA) (C_rising (P := P) (w := w) (base := base) T HA 10) (C_goal_stands (P := P) (w := w) (base := base) T HA TB1) (C_changed (P := P) (w := w) (base := base) T HA) (by omega) (by omega) (by omega) (by omega) hr) (fun ds g Q E h => by obtain ⟨_, _, _, _, _, rfl, _⟩ := h; rfl) (fun ds g Q h => p_mend P1 ds g Q h) (fun _ _ _ _ h => h)
theorem C_mend_d (T : Txt mg) (HA : HasAll K mg) (TB1 : LamX.TabB base mg (He.codeOf K ("bindings", none)) P1) : Cal P w K mg base 51 "mend" ["rules", "facts", "goal", "may", "wish"] [.bl true] (sp_mend P1) := by
  obtain ⟨fd, F, nm⟩ := HA.h_mend
  obtain ⟨ds, rv, B⟩ := F.binds1 (ps := ["rules", "facts", "goal", "may", "wish"]) 4 0 (by simp) rfl (fun T kV doc pm an cdv ct us its hl h2 => match us, its, hl, h2 with | [_, _, _, _], [_], _, _ => ⟨_, rfl, rfl⟩)
  exact calW (k := 50) F nm B rv (fun _ _ => .cons .bl .nil) S_mend (fun _ _ _ _ _ _ hr => d_mend (k := 50) T (C_layers (P := P) (w := w) (base := base) T HA) (C_rising (P := P) (w := w) (base := base) T HA 10) (C_goal_stands (P := P) (w := w) (base := base) T HA TB1) (C_changed (P := P) (w := w) (base := base) T HA) (by omega) (by omega) (by omega) (by omega) hr) (fun ds g Q E h => by obtain ⟨_, _, _, _, _, rfl, _⟩ := h; rfl) (fun ds g Q h => p_mend P1 ds g Q h) (fun _ _ _ _ h => h)
theorem C__law_cell_at (T : Txt mg) (HA : HasAll K mg) : Cal P w K mg base 1 "_law_cell_at" ["script", "k"] [] sp_cell := calD (k := 0) HA.h__law_cell_at S__law_cell_at (fun _ _ _ _ _ _ hr => d__law_cell_at (k := 0) T   hr) (fun ds g Q E h => by obtain ⟨_, _, rfl, _⟩ := h; rfl) (fun ds g Q h => p_cell ds g Q h) (fun _ _ _ _ h => h)
theorem C__law_left (T : Txt mg) (HA : HasAll K mg) : Cal P w K mg base 4 "_law_left" ["script", "k"] [] sp_left := calD (k := 3) HA.h__law_left S__law_left (fun _ _ _ _ _ _ hr => d__law_left (k := 3) T (C__law_cell_at (P := P) (w := w) (base := base) T HA) (by omega) hr) (fun ds g Q E h => by obtain ⟨_, _, rfl, _⟩ := h; rfl) (fun ds g Q h => p_left ds g Q h) (fun _ _ _ _ h => h)
theorem C__law_pick (T : Txt mg) (HA : HasAll K mg) : Cal P w K mg base 1 "_law_pick" ["left", "many"] [] sp_pick := calD (k := 0) HA.h__law_pick S__law_pick (fun _ _ _ _ _ _ hr => d__law_pick (k := 0) T   hr) (fun ds g Q E h => by obtain ⟨_, _, rfl, _⟩ := h; rfl) (fun ds g Q h => p_pick ds g Q h) (fun _ _ _ _ h => h)
theorem C__law_words (T : Txt mg) (HA : HasAll K mg) : Cal P w K mg base 4 "_law_words" ["left"] [] sp_words := calD (k := 3) HA.h__law_words S__law_words (fun _ _ _ _ _ _ hr => d__law_words (k := 3) T (C__law_pick (P := P) (w := w) (base := base) T HA) (by omega) hr) (fun ds g Q E h => by obtain ⟨_, rfl, _⟩ := h; rfl) (fun ds g Q h => p_words ds g Q h) (fun _ _ _ _ h => h)
theorem C__law_constants (T : Txt mg) (HA : HasAll K mg) : Cal P w K mg base 4 "_law_constants" ["left", "words"] [] sp_consts := calD (k := 3) HA.h__law_constants S__law_constants (fun _ _ _ _ _ _ hr => d__law_constants (k := 3) T (C__law_pick (P := P) (w := w) (base := base) T HA) (by omega) hr) (fun ds g Q E h => by obtain ⟨_, _, _, _, _, _, _, rfl, _⟩ := h; rfl) (fun ds g Q h => p_consts ds g Q h) (fun _ _ _ _ h => h)
theorem C__law_parts (T : Txt mg) (HA : HasAll K mg) (TB2 : LamX.TabB base mg (He.codeOf K ("_law_parts", none)) P2) : Cal P w K mg base 6 "_law_parts" ["many"] [] (sp_parts P2) := calC (k := 5) (p := ("_law_parts", none)) HA.h__law_parts S__law_parts (fun _ _ _ _ _ hr => d__law_parts (k := 2) T  TB2  hr) (fun ds g Q E h => by obtain ⟨_, rfl, _⟩ := h; rfl) (fun ds g Q h => p_parts P2 ds g Q h) (fun _ _ _ _ h => h)
theorem C__law_changed (T : Txt mg) (HA : HasAll K mg) : Cal P w K mg base 1 "_law_changed" ["facts", "change"] [] sp_changed := calD (k := 0) HA.h__law_changed S__law_changed (fun _ _ _ _ _ _ hr => d__law_changed (k := 0) T   hr) (fun ds g Q E h => by obtain ⟨_, _, _, _, rfl, _⟩ := h; rfl) (fun ds g Q h => p_changed ds g Q h) (fun _ _ _ _ h => h)
theorem C__law_due (T : Txt mg) (HA : HasAll K mg) (TB2 : LamX.TabB base mg (He.codeOf K ("_law_parts", none)) P2) : Cal P w K mg base 9 "_law_due" ["stands", "may", "wish"] [] (sp_due P2) := calD (k := 8) HA.h__law_due S__law_due (fun _ _ _ _ _ _ hr => d__law_due (k := 8) T (C__law_parts (P := P) (w := w) (base := base) T HA TB2) (by omega) hr) (fun ds g Q E h => by obtain ⟨_, _, _, _, _, rfl, _⟩ := h; rfl) (fun ds g Q h => p_due P2 ds g Q h) (fun _ _ _ _ h => h)
theorem C__law_same (T : Txt mg) (HA : HasAll K mg) : Cal P w K mg base 1 "_law_same" ["found", "due"] [] sp_same := calD (k := 0) HA.h__law_same S__law_same (fun _ _ _ _ _ _ hr => d__law_same (k := 0) T   hr) (fun ds g Q E h => by rcases h with ⟨rfl, _⟩ | ⟨_, _, rfl, _⟩ <;> rfl) (fun ds g Q h => p_same ds g Q h) (fun _ _ _ _ h => h)
theorem C__law_asked (T : Txt mg) (HA : HasAll K mg) (TB1 : LamX.TabB base mg (He.codeOf K ("bindings", none)) P1) : Cal P w K mg base 54 "_law_asked" ["rules", "facts", "goal", "may", "wish"] [] (sp_mend P1) := calD (k := 53) HA.h__law_asked S__law_asked (fun _ _ _ _ _ _ hr => d__law_asked (k := 53) T (C_mend (P := P) (w := w) (base := base) T HA TB1) (C_mend_d (P := P) (w := w) (base := base) T HA TB1) (by omega) hr) (fun ds g Q E h => by obtain ⟨_, _, _, _, _, rfl, _⟩ := h; rfl) (fun ds g Q h => p_asked P1 ds g Q h) (fun _ _ _ _ h => h)
theorem C__law_right (T : Txt mg) (HA : HasAll K mg) (TB1 : LamX.TabB base mg (He.codeOf K ("bindings", none)) P1) : Cal P w K mg base 57 "_law_right" ["rules", "facts", "goal", "may", "wish", "due"] [] (sp_right P1) := calD (k := 56) HA.h__law_right S__law_right (fun _ _ _ _ _ _ hr => d__law_right (k := 56) T (C__law_asked (P := P) (w := w) (base := base) T HA TB1) (C__law_same (P := P) (w := w) (base := base) T HA) (by omega) (by omega) hr) (fun ds g Q E h => by obtain ⟨_, _, _, _, _, rfl, _⟩ := h; rfl) (fun ds g Q h => p_right P1 ds g Q h) (fun _ _ _ _ h => h)
theorem C__law_eight (T : Txt mg) (HA : HasAll K mg) : Cal P w K mg base 1 "_law_eight" ["words", "constants"] [] sp_eight := calD (k := 0) HA.h__law_eight S__law_eight (fun _ _ _ _ _ _ hr => d__law_eight (k := 0) T   hr) (fun ds g Q E h => by obtain ⟨_, _, _, _, _, _, _, _, rfl, _⟩ := h; rfl) (fun ds g Q h => p_eight ds g Q h) (fun _ _ _ _ h => h)
theorem C__law_mixed_up (T : Txt mg) (HA : HasAll K mg) : Cal P w K mg base 4 "_law_mixed_up" ["left", "facts"] [] sp_mixed := calD (k := 3) HA.h__law_mixed_up S__law_mixed_up (fun _ _ _ _ _ _ hr => d__law_mixed_up (k := 3) T (C__law_pick (P := P) (w := w) (base := base) T HA) (by omega) hr) (fun ds g Q E h => by obtain ⟨_, _, rfl, _⟩ := h; rfl) (fun ds g Q h => p_mixed ds g Q h) (fun _ _ _ _ h => h)
theorem C__law_some_rules (T : Txt mg) (HA : HasAll K mg) : Cal P w K mg base 4 "_law_some_rules" ["left", "facts", "goal"] [] sp_rules := calD (k := 3) HA.h__law_some_rules S__law_some_rules (fun _ _ _ _ _ _ hr => d__law_some_rules (k := 3) T (C__law_pick (P := P) (w := w) (base := base) T HA) (by omega) hr) (fun ds g Q E h => by obtain ⟨_, _, _, rfl, _⟩ := h; rfl) (fun ds g Q h => p_some_rules ds g Q h) (fun _ _ _ _ h => h)
theorem C__law_stands (T : Txt mg) (HA : HasAll K mg) : Cal P w K mg base 1 "_law_stands" ["rules", "facts", "goal"] [] sp_lstands := calD (k := 0) HA.h__law_stands S__law_stands (fun _ _ _ _ _ _ hr => d__law_stands (k := 0) T   hr) (fun ds g Q E h => by obtain ⟨_, _, _, rfl, _⟩ := h; rfl) (fun ds g Q h => p_law_stands ds g Q h) (fun _ _ _ _ h => h)
theorem C_law (T : Txt mg) (HA : HasAll K mg) (TB1 : LamX.TabB base mg (He.codeOf K ("bindings", none)) P1) (TB2 : LamX.TabB base mg (He.codeOf K ("_law_parts", none)) P2) : Cal P w K mg base 60 "law" ["script"] [] (sp_law P1 P2) := calD (k := 59) HA.h_law S_law (fun _ _ _ _ _ _ hr => d_law (k := 59) T (C__law_words (P := P) (w := w) (base := base) T HA) (C__law_left (P := P) (w := w) (base := base) T HA) (C__law_eight (P := P) (w := w) (base := base) T HA) (C__law_constants (P := P) (w := w) (base := base) T HA) (C__law_mixed_up (P := P) (w := w) (base := base) T HA) (C__law_pick (P := P) (w := w) (base := base) T HA) (C__law_some_rules (P := P) (w := w) (base := base) T HA) (C__law_parts (P := P) (w := w) (base := base) T HA TB2) (C__law_stands (P := P) (w := w) (base := base) T HA) (C__law_changed (P := P) (w := w) (base := base) T HA) (C__law_right (P := P) (w := w) (base := base) T HA TB1) (C__law_due (P := P) (w := w) (base := base) T HA TB2) (by omega) (by omega) (by omega) (by omega) (by omega) (by omega) (by omega) (by omega) (by omega) (by omega) (by omega) (by omega) hr) (fun ds g Q E h => by obtain ⟨_, rfl, _⟩ := h; rfl) (fun ds g Q h => p_law P1 P2 ds g Q h) (fun _ _ _ _ h => h)
theorem F_law (T : Txt mg) (HA : HasAll K mg) (TB1 : LamX.TabB base mg (He.codeOf K ("bindings", none)) P1) (TB2 : LamX.TabB base mg (He.codeOf K ("_law_parts", none)) P2) {fd : FuncData} (F : FunD K "law" "law" (defArgs s_law) (defBody s_law) (defScope s_law) [] [] (He.fAd K ("law", none)) fd) : FnT P w K mg base 60 (He.fAd K ("law", none)) fd ["script"] (sp_law P1 P2) := fokD (k := 59) F S_law (fun _ _ _ _ _ _ hr => d_law (k := 59) T (C__law_words (P := P) (w := w) (base := base) T HA) (C__law_left (P := P) (w := w) (base := base) T HA) (C__law_eight (P := P) (w := w) (base := base) T HA) (C__law_constants (P := P) (w := w) (base := base) T HA) (C__law_mixed_up (P := P) (w := w) (base := base) T HA) (C__law_pick (P := P) (w := w) (base := base) T HA) (C__law_some_rules (P := P) (w := w) (base := base) T HA) (C__law_parts (P := P) (w := w) (base := base) T HA TB2) (C__law_stands (P := P) (w := w) (base := base) T HA) (C__law_changed (P := P) (w := w) (base := base) T HA) (C__law_right (P := P) (w := w) (base := base) T HA TB1) (C__law_due (P := P) (w := w) (base := base) T HA TB2) (by omega) (by omega) (by omega) (by omega) (by omega) (by omega) (by omega) (by omega) (by omega) (by omega) (by omega) (by omega) hr) (fun ds g Q _ h => p_law P1 P2 ds g Q h) (fun _ _ _ _ h => h)
end
def lawLevel : Nat := 60
end K82
set_option Elab.async false
set_option linter.all false
set_option maxRecDepth 100000
set_option maxHeartbeats 0
/-! printed by head82.py: the head -/
namespace K82
open PySem PySem.Spec L2 PyProof.Rows TL
abbrev dfs : List He.DefD := [
  ⟨("is_word", none), "is_word", "is_word", defArgs s_is_word, defBody s_is_word, defScope s_is_word, [], []⟩,
  ⟨("is_number", none), "is_number", "is_number", defArgs s_is_number, defBody s_is_number, defScope s_is_number, [], []⟩,
  ⟨("is_headed", none), "is_headed", "is_headed", defArgs s_is_headed, defBody s_is_headed, defScope s_is_headed, [], []⟩,
  ⟨("is_within", none), "is_within", "is_within", defArgs s_is_within, defBody s_is_within, defScope s_is_within, [], []⟩,
  ⟨("is_thing", none), "is_thing", "is_thing", defArgs s_is_thing, defBody s_is_thing, defScope s_is_thing, [], []⟩,
  ⟨("is_fact", none), "is_fact", "is_fact", defArgs s_is_fact, defBody s_is_fact, defScope s_is_fact, [], []⟩,
  ⟨("rank", none), "rank", "rank", defArgs s_rank, defBody s_rank, defScope s_rank, [], []⟩,
  ⟨("ordered", none), "ordered", "ordered", defArgs s_ordered, defBody s_ordered, defScope s_ordered, [], []⟩,
  ⟨("is_name", none), "is_name", "is_name", defArgs s_is_name, defBody s_is_name, defScope s_is_name, [], []⟩,
  ⟨("filled", none), "filled", "filled", defArgs s_filled, defBody s_filled, defScope s_filled, [], []⟩,
  ⟨("order_key", none), "order_key", "order_key", defArgs s_order_key, defBody s_order_key, defScope s_order_key, [], []⟩,
  ⟨("holds", none), "holds", "holds", defArgs s_holds, defBody s_holds, defScope s_holds, [], []⟩,
  ⟨("names_within", none), "names_within", "names_within", defArgs s_names_within, defBody s_names_within, defScope s_names_within, [], []⟩,
  ⟨("gone_on", none), "gone_on", "gone_on", defArgs s_gone_on, defBody s_gone_on, defScope s_gone_on, [], []⟩,
  ⟨("each_once", none), "each_once", "each_once", defArgs s_each_once, defBody s_each_once, defScope s_each_once, [], []⟩,
  ⟨("names_sorted", none), "names_sorted", "names_sorted", defArgs s_names_sorted, defBody s_names_sorted, defScope s_names_sorted, [], []⟩,
  ⟨("bindings", none), "bindings", "bindings", defArgs s_bindings, defBody s_bindings, defScope s_bindings, [], []⟩,
  ⟨("gives", none), "gives", "gives", defArgs s_gives, defBody s_gives, defScope s_gives, [], []⟩,
  ⟨("shape_of", none), "shape_of", "shape_of", defArgs s_shape_of, defBody s_shape_of, defScope s_shape_of, [], []⟩,
  ⟨("rule_shape", none), "rule_shape", "rule_shape", defArgs s_rule_shape, defBody s_rule_shape, defScope s_rule_shape, [], []⟩,
  ⟨("looked_at", none), "looked_at", "looked_at", defArgs s_looked_at, defBody s_looked_at, defScope s_looked_at, [], []⟩,
  ⟨("two_of_one_shape", none), "two_of_one_shape", "two_of_one_shape", defArgs s_two_of_one_shape, defBody s_two_of_one_shape, defScope s_two_of_one_shape, [], []⟩,
  ⟨("way_of_rules", none), "way_of_rules", "way_of_rules", defArgs s_way_of_rules, defBody s_way_of_rules, defScope s_way_of_rules, [], []⟩,
  ⟨("ring_of_rules", none), "ring_of_rules", "ring_of_rules", defArgs s_ring_of_rules, defBody s_ring_of_rules, defScope s_ring_of_rules, [], []⟩,
  ⟨("bar", none), "bar", "bar", defArgs s_bar, defBody s_bar, defScope s_bar, [], []⟩,
  ⟨("layers", none), "layers", "layers", defArgs s_layers, defBody s_layers, defScope s_layers, [], []⟩,
  ⟨("take_in", none), "take_in", "take_in", defArgs s_take_in, defBody s_take_in, defScope s_take_in, [], []⟩,
  ⟨("go_on", none), "go_on", "go_on", defArgs s_go_on, defBody s_go_on, defScope s_go_on, [], []⟩,
  ⟨("ages", none), "ages", "ages", defArgs s_ages, defBody s_ages, defScope s_ages, [], []⟩,
  ⟨("follows", none), "follows", "follows", defArgs s_follows, defBody s_follows, defScope s_follows, [], []⟩,
  ⟨("rising", none), "rising", "rising", defArgs s_rising, defBody s_rising, defScope s_rising, [], []⟩,
  ⟨("changed", none), "changed", "changed", defArgs s_changed, defBody s_changed, defScope s_changed, [], []⟩,
  ⟨("goal_stands", none), "goal_stands", "goal_stands", defArgs s_goal_stands, defBody s_goal_stands, defScope s_goal_stands, [], []⟩,
  ⟨("mend", none), "mend", "mend", defArgs s_mend, defBody s_mend, defScope s_mend, [.bl true], []⟩,
  ⟨("_law_cell_at", none), "_law_cell_at", "_law_cell_at", defArgs s__law_cell_at, defBody s__law_cell_at, defScope s__law_cell_at, [], []⟩,
  ⟨("_law_left", none), "_law_left", "_law_left", defArgs s__law_left, defBody s__law_left, defScope s__law_left, [], []⟩,
  ⟨("_law_pick", none), "_law_pick", "_law_pick", defArgs s__law_pick, defBody s__law_pick, defScope s__law_pick, [], []⟩,
  ⟨("_law_words", none), "_law_words", "_law_words", defArgs s__law_words, defBody s__law_words, defScope s__law_words, [], []⟩,
  ⟨("_law_constants", none), "_law_constants", "_law_constants", defArgs s__law_constants, defBody s__law_constants, defScope s__law_constants, [], []⟩,
  ⟨("_law_parts", none), "_law_parts", "_law_parts", defArgs s__law_parts, defBody s__law_parts, defScope s__law_parts, [], []⟩,
  ⟨("_law_changed", none), "_law_changed", "_law_changed", defArgs s__law_changed, defBody s__law_changed, defScope s__law_changed, [], []⟩,
  ⟨("_law_due", none), "_law_due", "_law_due", defArgs s__law_due, defBody s__law_due, defScope s__law_due, [], []⟩,
  ⟨("_law_same", none), "_law_same", "_law_same", defArgs s__law_same, defBody s__law_same, defScope s__law_same, [], []⟩,
  ⟨("_law_asked", none), "_law_asked", "_law_asked", defArgs s__law_asked, defBody s__law_asked, defScope s__law_asked, [], []⟩,
  ⟨("_law_right", none), "_law_right", "_law_right", defArgs s__law_right, defBody s__law_right, defScope s__law_right, [], []⟩,
  ⟨("_law_eight", none), "_law_eight", "_law_eight", defArgs s__law_eight, defBody s__law_eight, defScope s__law_eight, [], []⟩,
  ⟨("_law_mixed_up", none), "_law_mixed_up", "_law_mixed_up", defArgs s__law_mixed_up, defBody s__law_mixed_up, defScope s__law_mixed_up, [], []⟩,
  ⟨("_law_some_rules", none), "_law_some_rules", "_law_some_rules", defArgs s__law_some_rules, defBody s__law_some_rules, defScope s__law_some_rules, [], []⟩,
  ⟨("_law_stands", none), "_law_stands", "_law_stands", defArgs s__law_stands, defBody s__law_stands, defScope s__law_stands, [], []⟩,
  ⟨("law", none), "law", "law", defArgs s_law, defBody s_law, defScope s_law, [], []⟩]
abbrev fas : List He.Fa := [.glo "is_word", .glo "is_number", .glo "is_headed", .glo "is_within", .glo "is_thing", .glo "is_fact", .glo "rank", .glo "ordered", .glo "is_name", .glo "filled", .glo "order_key", .glo "holds", .glo "names_within", .glo "gone_on", .glo "each_once", .glo "names_sorted", .glo "bindings", .glo "gives", .glo "shape_of", .glo "rule_shape", .glo "looked_at", .glo "two_of_one_shape", .glo "way_of_rules", .glo "ring_of_rules", .glo "bar", .glo "layers", .glo "take_in", .glo "go_on", .glo "ages", .glo "follows", .glo "rising", .glo "changed", .glo "goal_stands", .glo "mend", .glo "_law_cell_at", .glo "_law_left", .glo "_law_pick", .glo "_law_words", .glo "_law_constants", .glo "_law_parts", .glo "_law_changed", .glo "_law_due", .glo "_law_same", .glo "_law_asked", .glo "_law_right", .glo "_law_eight", .glo "_law_mixed_up", .glo "_law_some_rules", .glo "_law_stands", .glo "law", .int "BEYOND" (10000000000000000000000000000000000000000), .str "GREAT" "ABCDEFGHIJKLMNOPQRSTUVWXYZ", .int "MOST" (300), .int "MOST_DEEP" (6), .int "MOST_SIGNS_patterns" (12), .int "MOST_SIGNS_things" (40), .int "MOST_THINGS" (4), .str "NAME_SIGNS" "abcdefghijklmnopqrstuvwxyzABCDEFGHIJKLMNOPQRSTUVWXYZ0123456789", .str "SMALL" "abcdefghijklmnopqrstuvwxyz", .str "WORD_SIGNS" "abcdefghijklmnopqrstuvwxyz0123456789.", .free "all", .free "bool", .free "enumerate", .free "int", .free "isinstance", .free "len", .free "list", .free "max", .free "range", .free "set", .free "sorted", .free "str", .free "tuple"]
abbrev tfs : List He.Defn := [("bindings", none), ("_law_parts", none)]
abbrev R : PySem.W.OpenRow := PySem.W.OpenLaw.row PySem.Challenge.rw_reasonkeep_k82_of_as_few_the_first
abbrev hk : PySem.W.Hook := He.hookX 4 fas dfs [] tfs (fun _ => true)
def ob (s : PySem.W.SharedT) : He.AlX := He.obsX 4 fas dfs [] tfs (fun _ => true) (HandSHeadRun.getT s)
theorem ob_eq (s : PySem.W.SharedT) : ob s = hk.obs s.abs := He.obsX_eq (HandSHeadRun.getT_eq s)
abbrev loose0 : List PySem.Str := ["ReasonError", "NoLayers", "TooMuch", "SMALL", "WORD_SIGNS", "MOST_SIGNS_things", "BEYOND", "MOST_THINGS", "MOST_DEEP", "is_word", "is_number", "is_headed", "is_within", "is_thing", "is_fact", "rank", "ordered", "GREAT", "NAME_SIGNS", "MOST_SIGNS_patterns", "is_name", "filled", "match_on", "matched", "order_key", "number_told", "holds", "filled_on", "gone_on", "each_once"]
abbrev loose1 : List PySem.Str := ["names_sorted", "names_within", "bindings", "worth_of", "gives", "shape_of", "rule_shape", "looked_at", "two_of_one_shape", "way_of_rules", "ring_of_rules", "bar", "layers", "MOST", "take_in", "go_on", "ages", "follows", "rising", "changed", "goal_stands", "mend", "_law_cell_at", "_law_left", "_law_pick", "_law_words", "_law_constants", "_law_parts", "_law_changed", "_law_due"]
abbrev loose2 : List PySem.Str := ["_law_same", "_law_asked", "_law_right", "_law_eight", "_law_mixed_up", "_law_some_rules", "_law_stands"]
abbrev loose : List PySem.Str := loose0 ++ loose1 ++ loose2
theorem run (w : World) : HandSHeadRun.RunEq R (PySem.W.view R.prog [77]) hk ob 4000 loose w := by
  intro os
  kernel_rfl
theorem hasAll {K : PySem.W.Frag} {h : Heap} {mg : PySem.Str → Option Value} (X : K.In h) (G : h.Ns mainGlobals mg) (c : He.SaysD fas dfs K) : HasAll K mg where
  h_is_word := ⟨let ⟨fd, F⟩ := c.def_ 0 rfl; ⟨fd, F, F.bindsN (ps := ["thing"]) fun _ _ _ _ _ _ us hl => match us, hl with | [_], _ => rfl⟩, He.glo_ok X G (c.fact 0 rfl)⟩
  h_is_number := ⟨let ⟨fd, F⟩ := c.def_ 1 rfl; ⟨fd, F, F.bindsN (ps := ["thing"]) fun _ _ _ _ _ _ us hl => match us, hl with | [_], _ => rfl⟩, He.glo_ok X G (c.fact 1 rfl)⟩
  h_is_headed := ⟨let ⟨fd, F⟩ := c.def_ 2 rfl; ⟨fd, F, F.bindsN (ps := ["thing"]) fun _ _ _ _ _ _ us hl => match us, hl with | [_], _ => rfl⟩, He.glo_ok X G (c.fact 2 rfl)⟩
  h_is_within := ⟨let ⟨fd, F⟩ := c.def_ 3 rfl; ⟨fd, F, F.bindsN (ps := ["thing", "deep"]) fun _ _ _ _ _ _ us hl => match us, hl with | [_, _], _ => rfl⟩, He.glo_ok X G (c.fact 3 rfl)⟩
  h_is_thing := ⟨let ⟨fd, F⟩ := c.def_ 4 rfl; ⟨fd, F, F.bindsN (ps := ["thing"]) fun _ _ _ _ _ _ us hl => match us, hl with | [_], _ => rfl⟩, He.glo_ok X G (c.fact 4 rfl)⟩
  h_is_fact := ⟨let ⟨fd, F⟩ := c.def_ 5 rfl; ⟨fd, F, F.bindsN (ps := ["thing"]) fun _ _ _ _ _ _ us hl => match us, hl with | [_], _ => rfl⟩, He.glo_ok X G (c.fact 5 rfl)⟩
  h_rank := ⟨let ⟨fd, F⟩ := c.def_ 6 rfl; ⟨fd, F, F.bindsN (ps := ["thing"]) fun _ _ _ _ _ _ us hl => match us, hl with | [_], _ => rfl⟩, He.glo_ok X G (c.fact 6 rfl)⟩
  h_ordered := ⟨let ⟨fd, F⟩ := c.def_ 7 rfl; ⟨fd, F, F.bindsN (ps := ["things"]) fun _ _ _ _ _ _ us hl => match us, hl with | [_], _ => rfl⟩, He.glo_ok X G (c.fact 7 rfl)⟩
  h_is_name := ⟨let ⟨fd, F⟩ := c.def_ 8 rfl; ⟨fd, F, F.bindsN (ps := ["thing"]) fun _ _ _ _ _ _ us hl => match us, hl with | [_], _ => rfl⟩, He.glo_ok X G (c.fact 8 rfl)⟩
  h_filled := ⟨let ⟨fd, F⟩ := c.def_ 9 rfl; ⟨fd, F, F.bindsN (ps := ["filling", "pattern"]) fun _ _ _ _ _ _ us hl => match us, hl with | [_, _], _ => rfl⟩, He.glo_ok X G (c.fact 9 rfl)⟩
  h_order_key := ⟨let ⟨fd, F⟩ := c.def_ 10 rfl; ⟨fd, F, F.bindsN (ps := ["thing"]) fun _ _ _ _ _ _ us hl => match us, hl with | [_], _ => rfl⟩, He.glo_ok X G (c.fact 10 rfl)⟩
  h_holds := ⟨let ⟨fd, F⟩ := c.def_ 11 rfl; ⟨fd, F, F.bindsN (ps := ["part", "filling", "had"]) fun _ _ _ _ _ _ us hl => match us, hl with | [_, _, _], _ => rfl⟩, He.glo_ok X G (c.fact 11 rfl)⟩
  h_names_within := ⟨let ⟨fd, F⟩ := c.def_ 12 rfl; ⟨fd, F, F.bindsN (ps := ["pattern"]) fun _ _ _ _ _ _ us hl => match us, hl with | [_], _ => rfl⟩, He.glo_ok X G (c.fact 12 rfl)⟩
  h_gone_on := ⟨let ⟨fd, F⟩ := c.def_ 13 rfl; ⟨fd, F, F.bindsN (ps := ["part", "filling", "had"]) fun _ _ _ _ _ _ us hl => match us, hl with | [_, _, _], _ => rfl⟩, He.glo_ok X G (c.fact 13 rfl)⟩
  h_each_once := ⟨let ⟨fd, F⟩ := c.def_ 14 rfl; ⟨fd, F, F.bindsN (ps := ["had"]) fun _ _ _ _ _ _ us hl => match us, hl with | [_], _ => rfl⟩, He.glo_ok X G (c.fact 14 rfl)⟩
  h_names_sorted := ⟨let ⟨fd, F⟩ := c.def_ 15 rfl; ⟨fd, F, F.bindsN (ps := ["body"]) fun _ _ _ _ _ _ us hl => match us, hl with | [_], _ => rfl⟩, He.glo_ok X G (c.fact 15 rfl)⟩
  h_bindings := ⟨let ⟨fd, F⟩ := c.def_ 16 rfl; ⟨fd, F, F.bindsN (ps := ["body", "had"]) fun _ _ _ _ _ _ us hl => match us, hl with | [_, _], _ => rfl⟩, He.glo_ok X G (c.fact 16 rfl)⟩
  h_gives := ⟨let ⟨fd, F⟩ := c.def_ 17 rfl; ⟨fd, F, F.bindsN (ps := ["rule", "had"]) fun _ _ _ _ _ _ us hl => match us, hl with | [_, _], _ => rfl⟩, He.glo_ok X G (c.fact 17 rfl)⟩
  h_shape_of := ⟨let ⟨fd, F⟩ := c.def_ 18 rfl; ⟨fd, F, F.bindsN (ps := ["atom"]) fun _ _ _ _ _ _ us hl => match us, hl with | [_], _ => rfl⟩, He.glo_ok X G (c.fact 18 rfl)⟩
  h_rule_shape := ⟨let ⟨fd, F⟩ := c.def_ 19 rfl; ⟨fd, F, F.bindsN (ps := ["rule"]) fun _ _ _ _ _ _ us hl => match us, hl with | [_], _ => rfl⟩, He.glo_ok X G (c.fact 19 rfl)⟩
  h_looked_at := ⟨let ⟨fd, F⟩ := c.def_ 20 rfl; ⟨fd, F, F.bindsN (ps := ["rule"]) fun _ _ _ _ _ _ us hl => match us, hl with | [_], _ => rfl⟩, He.glo_ok X G (c.fact 20 rfl)⟩
  h_two_of_one_shape := ⟨let ⟨fd, F⟩ := c.def_ 21 rfl; ⟨fd, F, F.bindsN (ps := ["rules"]) fun _ _ _ _ _ _ us hl => match us, hl with | [_], _ => rfl⟩, He.glo_ok X G (c.fact 21 rfl)⟩
  h_way_of_rules := ⟨let ⟨fd, F⟩ := c.def_ 22 rfl; ⟨fd, F, F.bindsN (ps := ["rules", "begin", "goal"]) fun _ _ _ _ _ _ us hl => match us, hl with | [_, _, _], _ => rfl⟩, He.glo_ok X G (c.fact 22 rfl)⟩
  h_ring_of_rules := ⟨let ⟨fd, F⟩ := c.def_ 23 rfl; ⟨fd, F, F.bindsN (ps := ["rules"]) fun _ _ _ _ _ _ us hl => match us, hl with | [_], _ => rfl⟩, He.glo_ok X G (c.fact 23 rfl)⟩
  h_bar := ⟨let ⟨fd, F⟩ := c.def_ 24 rfl; ⟨fd, F, F.bindsN (ps := ["rules"]) fun _ _ _ _ _ _ us hl => match us, hl with | [_], _ => rfl⟩, He.glo_ok X G (c.fact 24 rfl)⟩
  h_layers := ⟨let ⟨fd, F⟩ := c.def_ 25 rfl; ⟨fd, F, F.bindsN (ps := ["rules"]) fun _ _ _ _ _ _ us hl => match us, hl with | [_], _ => rfl⟩, He.glo_ok X G (c.fact 25 rfl)⟩
  h_take_in := ⟨let ⟨fd, F⟩ := c.def_ 26 rfl; ⟨fd, F, F.bindsN (ps := ["found", "facts", "age"]) fun _ _ _ _ _ _ us hl => match us, hl with | [_, _, _], _ => rfl⟩, He.glo_ok X G (c.fact 26 rfl)⟩
  h_go_on := ⟨let ⟨fd, F⟩ := c.def_ 27 rfl; ⟨fd, F, F.bindsN (ps := ["some", "found"]) fun _ _ _ _ _ _ us hl => match us, hl with | [_, _], _ => rfl⟩, He.glo_ok X G (c.fact 27 rfl)⟩
  h_ages := ⟨let ⟨fd, F⟩ := c.def_ 28 rfl; ⟨fd, F, F.bindsN (ps := ["rules", "facts"]) fun _ _ _ _ _ _ us hl => match us, hl with | [_, _], _ => rfl⟩, He.glo_ok X G (c.fact 28 rfl)⟩
  h_follows := ⟨let ⟨fd, F⟩ := c.def_ 29 rfl; ⟨fd, F, F.bindsN (ps := ["rules", "facts"]) fun _ _ _ _ _ _ us hl => match us, hl with | [_, _], _ => rfl⟩, He.glo_ok X G (c.fact 29 rfl)⟩
  h_rising := ⟨let ⟨fd, F⟩ := c.def_ 30 rfl; ⟨fd, F, F.bindsN (ps := ["first", "many", "size"]) fun _ _ _ _ _ _ us hl => match us, hl with | [_, _, _], _ => rfl⟩, He.glo_ok X G (c.fact 30 rfl)⟩
  h_changed := ⟨let ⟨fd, F⟩ := c.def_ 31 rfl; ⟨fd, F, F.bindsN (ps := ["facts", "change"]) fun _ _ _ _ _ _ us hl => match us, hl with | [_, _], _ => rfl⟩, He.glo_ok X G (c.fact 31 rfl)⟩
  h_goal_stands := ⟨let ⟨fd, F⟩ := c.def_ 32 rfl; ⟨fd, F, F.bindsN (ps := ["rules", "facts", "goal"]) fun _ _ _ _ _ _ us hl => match us, hl with | [_, _, _], _ => rfl⟩, He.glo_ok X G (c.fact 32 rfl)⟩
  h_mend := let ⟨fd, F⟩ := c.def_ 33 rfl; ⟨fd, F, He.glo_ok X G (c.fact 33 rfl)⟩
  h__law_cell_at := ⟨let ⟨fd, F⟩ := c.def_ 34 rfl; ⟨fd, F, F.bindsN (ps := ["script", "k"]) fun _ _ _ _ _ _ us hl => match us, hl with | [_, _], _ => rfl⟩, He.glo_ok X G (c.fact 34 rfl)⟩
  h__law_left := ⟨let ⟨fd, F⟩ := c.def_ 35 rfl; ⟨fd, F, F.bindsN (ps := ["script", "k"]) fun _ _ _ _ _ _ us hl => match us, hl with | [_, _], _ => rfl⟩, He.glo_ok X G (c.fact 35 rfl)⟩
  h__law_pick := ⟨let ⟨fd, F⟩ := c.def_ 36 rfl; ⟨fd, F, F.bindsN (ps := ["left", "many"]) fun _ _ _ _ _ _ us hl => match us, hl with | [_, _], _ => rfl⟩, He.glo_ok X G (c.fact 36 rfl)⟩
  h__law_words := ⟨let ⟨fd, F⟩ := c.def_ 37 rfl; ⟨fd, F, F.bindsN (ps := ["left"]) fun _ _ _ _ _ _ us hl => match us, hl with | [_], _ => rfl⟩, He.glo_ok X G (c.fact 37 rfl)⟩
  h__law_constants := ⟨let ⟨fd, F⟩ := c.def_ 38 rfl; ⟨fd, F, F.bindsN (ps := ["left", "words"]) fun _ _ _ _ _ _ us hl => match us, hl with | [_, _], _ => rfl⟩, He.glo_ok X G (c.fact 38 rfl)⟩
  h__law_parts := ⟨let ⟨fd, F⟩ := c.def_ 39 rfl; ⟨fd, F, F.bindsN (ps := ["many"]) fun _ _ _ _ _ _ us hl => match us, hl with | [_], _ => rfl⟩, He.glo_ok X G (c.fact 39 rfl)⟩
  h__law_changed := ⟨let ⟨fd, F⟩ := c.def_ 40 rfl; ⟨fd, F, F.bindsN (ps := ["facts", "change"]) fun _ _ _ _ _ _ us hl => match us, hl with | [_, _], _ => rfl⟩, He.glo_ok X G (c.fact 40 rfl)⟩
  h__law_due := ⟨let ⟨fd, F⟩ := c.def_ 41 rfl; ⟨fd, F, F.bindsN (ps := ["stands", "may", "wish"]) fun _ _ _ _ _ _ us hl => match us, hl with | [_, _, _], _ => rfl⟩, He.glo_ok X G (c.fact 41 rfl)⟩
  h__law_same := ⟨let ⟨fd, F⟩ := c.def_ 42 rfl; ⟨fd, F, F.bindsN (ps := ["found", "due"]) fun _ _ _ _ _ _ us hl => match us, hl with | [_, _], _ => rfl⟩, He.glo_ok X G (c.fact 42 rfl)⟩
  h__law_asked := ⟨let ⟨fd, F⟩ := c.def_ 43 rfl; ⟨fd, F, F.bindsN (ps := ["rules", "facts", "goal", "may", "wish"]) fun _ _ _ _ _ _ us hl => match us, hl with | [_, _, _, _, _], _ => rfl⟩, He.glo_ok X G (c.fact 43 rfl)⟩
  h__law_right := ⟨let ⟨fd, F⟩ := c.def_ 44 rfl; ⟨fd, F, F.bindsN (ps := ["rules", "facts", "goal", "may", "wish", "due"]) fun _ _ _ _ _ _ us hl => match us, hl with | [_, _, _, _, _, _], _ => rfl⟩, He.glo_ok X G (c.fact 44 rfl)⟩
  h__law_eight := ⟨let ⟨fd, F⟩ := c.def_ 45 rfl; ⟨fd, F, F.bindsN (ps := ["words", "constants"]) fun _ _ _ _ _ _ us hl => match us, hl with | [_, _], _ => rfl⟩, He.glo_ok X G (c.fact 45 rfl)⟩
  h__law_mixed_up := ⟨let ⟨fd, F⟩ := c.def_ 46 rfl; ⟨fd, F, F.bindsN (ps := ["left", "facts"]) fun _ _ _ _ _ _ us hl => match us, hl with | [_, _], _ => rfl⟩, He.glo_ok X G (c.fact 46 rfl)⟩
  h__law_some_rules := ⟨let ⟨fd, F⟩ := c.def_ 47 rfl; ⟨fd, F, F.bindsN (ps := ["left", "facts", "goal"]) fun _ _ _ _ _ _ us hl => match us, hl with | [_, _, _], _ => rfl⟩, He.glo_ok X G (c.fact 47 rfl)⟩
  h__law_stands := ⟨let ⟨fd, F⟩ := c.def_ 48 rfl; ⟨fd, F, F.bindsN (ps := ["rules", "facts", "goal"]) fun _ _ _ _ _ _ us hl => match us, hl with | [_, _, _], _ => rfl⟩, He.glo_ok X G (c.fact 48 rfl)⟩
  h_law := ⟨let ⟨fd, F⟩ := c.def_ 49 rfl; ⟨fd, F, F.bindsN (ps := ["script"]) fun _ _ _ _ _ _ us hl => match us, hl with | [_], _ => rfl⟩, He.glo_ok X G (c.fact 49 rfl)⟩
theorem txtAll {K : PySem.W.Frag} {h : Heap} {mg : PySem.Str → Option Value} (X : K.In h) (G : h.Ns mainGlobals mg) (c : He.SaysD fas dfs K) : Txt mg where
  c_BEYOND := He.int_ok X G (c.fact 50 rfl)
  c_GREAT := He.str_ok X G (c.fact 51 rfl)
  c_MOST := He.int_ok X G (c.fact 52 rfl)
  c_MOST_DEEP := He.int_ok X G (c.fact 53 rfl)
  c_MOST_SIGNS_patterns := He.int_ok X G (c.fact 54 rfl)
  c_MOST_SIGNS_things := He.int_ok X G (c.fact 55 rfl)
  c_MOST_THINGS := He.int_ok X G (c.fact 56 rfl)
  c_NAME_SIGNS := He.str_ok X G (c.fact 57 rfl)
  c_SMALL := He.str_ok X G (c.fact 58 rfl)
  c_WORD_SIGNS := He.str_ok X G (c.fact 59 rfl)
  n_all := He.free_ok X G (c.fact 60 rfl)
  n_bool := He.free_ok X G (c.fact 61 rfl)
  n_enumerate := He.free_ok X G (c.fact 62 rfl)
  n_int := He.free_ok X G (c.fact 63 rfl)
  n_isinstance := He.free_ok X G (c.fact 64 rfl)
  n_len := He.free_ok X G (c.fact 65 rfl)
  n_list := He.free_ok X G (c.fact 66 rfl)
  n_max := He.free_ok X G (c.fact 67 rfl)
  n_range := He.free_ok X G (c.fact 68 rfl)
  n_set := He.free_ok X G (c.fact 69 rfl)
  n_sorted := He.free_ok X G (c.fact 70 rfl)
  n_str := He.free_ok X G (c.fact 71 rfl)
  n_tuple := He.free_ok X G (c.fact 72 rfl)
/-- the names of what is made at run time -/
def nmT (l c : Nat) : PySem.Str := if l = 152 then ((("bindings" : PySem.Str) ++ ".<locals>.") ++ "things_of") else ((("_law_parts" : PySem.Str) ++ ".<locals>.") ++ "<lambda>")
theorem lawAt {w : World} {mg : PySem.Str → Option Value} {fa : Addr} {h : Heap} (G : h.Ns mainGlobals mg) (hfa : mg "law" = some (.ref fa)) (Y : hk.says w h) : ∃ K : PySem.W.Frag, K.In h ∧ LamX.LawAtS PySem.Challenge.rw_reasonkeep_k82_of_as_few_the_first w K CX0 60 63 "script" mg fa h := by
  obtain ⟨K, KX, c⟩ := Y
  have HA := hasAll KX G c.t.d
  have T := txtAll KX G c.t.d
  have e : fa = He.fAd K ("law", none) := by
    have := hfa.symm.trans HA.h_law.nm
    injection this with this
    injection this
  subst e
  obtain ⟨fd, F⟩ := c.t.d.def_ 49 rfl
  refine ⟨K, KX, fd, tfs.map (He.cT K), lowSp PySem.Challenge.rw_reasonkeep_k82_of_as_few_the_first.prog w K 1 (sp_law (He.cT K ("bindings", none)).2 (He.cT K ("_law_parts", none)).2), ?_, ?_, ?_, ?_, ?_, ?_⟩
  · intro p hp
    obtain ⟨t, ht, rfl⟩ := List.mem_map.mp hp
    exact c.empty t ht
  · intro p hp
    obtain ⟨t, ht, rfl⟩ := List.mem_map.mp hp
    exact c.out t ht
  · intro p hp
    obtain ⟨t, ht, rfl⟩ := List.mem_map.mp hp
    exact PySem.W.codeHd_of_K KX (c.hd t ht)
  · intro s u
    exact FunD.bindsA (ps := ["script"]) F (fun _ _ _ _ _ _ us hl => match us, hl with | [_], _ => rfl) s [u] rfl
  · intro H a ns _ _ hT hS
    have h1 := hT (He.cT K ("bindings", none)) (List.mem_map.mpr ⟨_, List.mem_cons_self .., rfl⟩)
    have h2 := hT (He.cT K ("_law_parts", none)) (List.mem_map.mpr ⟨_, List.mem_cons_of_mem _ (List.mem_cons_self ..), rfl⟩)
    generalize (He.cT K ("bindings", none)).2 = P1 at h1 ⊢
    generalize (He.cT K ("_law_parts", none)).2 = P2 at h2 ⊢
    refine ⟨[.scr ns], fun b => if b = P1 ∨ b = P2 then some (.tbl nmT) else none, fun d _ => d = .bl true, fun _ _ => False, rfl, ?_, ?_, ?_, ?_, ?_⟩
    · refine .cons ?_ .nil
      rcases hS with hS | hS
      · have ne : ∀ q, H q = some (.tbl #[]) → a ≠ q := fun q hq z => by
          rw [z] at hS
          rcases hS with hS | ⟨o, hS⟩ <;> rw [hq] at hS <;> cases hS
        refine .scr ?_ hS
        show (if a = P1 ∨ a = P2 then some (GO.tbl nmT) else none) = none
        rw [if_neg (fun z => z.elim (ne _ h1) (ne _ h2))]
      · exact .scrK hS
    · intro b o hb
      have hb' : (if b = P1 ∨ b = P2 then some (GO.tbl nmT) else none) = some o := hb
      split at hb'
      · rename_i hq
        cases hb'
        have hH : H b = some (.tbl #[]) := by rcases hq with rfl | rfl <;> assumption
        exact .tbl hH (by simp [TriplesOk]) (fun pos cv z => by cases z)
      · cases hb'
    · exact ⟨ns, rfl, ⟨nmT, if_pos (.inl rfl), rfl⟩, ⟨nmT, if_pos (.inr rfl), rfl⟩, fun _ => rfl⟩
    · intro d g' v H' hv _ _ hd
      subst hd
      cases hv
      rfl
    · intro _ _ _ _ _ _ z
      exact z
  · intro base _ _ hTB
    exact F_law T HA (hTB _ (List.mem_map.mpr ⟨("bindings", none), List.mem_cons_self .., rfl⟩)) (hTB _ (List.mem_map.mpr ⟨("_law_parts", none), List.mem_cons_of_mem _ (List.mem_cons_self ..), rfl⟩)) F
end K82
open PySem PySem.W PySem.Calls PyProof.Rows
theorem PySem.Challenge.cw_reasonkeep_k82_of_as_few_the_first_holds : PySem.Challenge.rw_reasonkeep_k82_of_as_few_the_first.Holds := by
  w_on; o_law
  refine HandSHeadRun.head_any (r := K82.R) (q := view K82.R.prog [77]) (H := K82.hk) (ob := K82.ob) (M := 4000) (loose := K82.loose) (d := HandSHeadRun.topDef K82.R.prog 77) (kwd := []) K82.ob_eq
    (by kernel_rfl) (fun s => by kernel_rfl) K82.run (by kernel_rfl) (by kernel_rfl) (by kernel_rfl) (by rfl) (by first | assumption | decide +kernel) (by decide +kernel) ⟨rfl, rfl, rfl, rfl, rfl, by decide +kernel⟩ ?hw ?hc
  case hw => w_witness2
  case hc =>
    refine LamX.walk_ofTsE (l := PySem.Challenge.rw_reasonkeep_k82_of_as_few_the_first) (n := 63) (k := 60) (x := "script") (CX := fun _ => L2.CX0) rfl (by decide) (by kernel_rfl) ⟨rfl, by decide, by decide⟩ ?F (fun _ _ _ _ _ z => z)
    intro w mg fa h Y G hmg0
    have hmg : mg ("law" : PySem.Str) = some (.ref fa) := by
      have e : (HandSHeadRun.topDef K82.R.prog 77).name = ("law" : PySem.Str) := by kernel_rfl
      rw [← e]
      exact hmg0
    exact K82.lawAt G hmg Y
