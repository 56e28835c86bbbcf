import PyProof.Rows.All
import Wide.All
import OpenK.AllK
import Wide.FinOn
import HandS.ForMost
import HandS.AnyAll
import HandS.GenList
import PyProof.GenQ
import KE.SortKeyHeap
import HandS.DictTup
import HandS.Conv
import HandS.SortKw
import HandS.TupSets
import HandS.Sort
import KE.KDictCopyH
import KE.KDictSum
import HandS.DictComp
import KE.KDictDisplayH
import KE.KDictPairs
import KE.KeyNested
import HandS.SetFor
import HandS.Strs
import KE.DataCmp
import HandS.TupMul
import HandS.Style
import HandS.Zip
import HandS.TupLe
import HandS.TupAny
import HandS.Deep
import HandS.Flow
import HandS.Wide
import HandS.IsInst
import HandS.WideBits
import HandS.HeadHook4
import PySem.Challenge.RW_meltlibrary_k63_whole_flood_families
import KE.KStateDown
import HandS.Head0
import HandS.Head1
import HandS.Head2
import HandS.HeadWalk
section
set_option Elab.async false
set_option linter.all false
set_option maxRecDepth 100000
set_option maxHeartbeats 2000000
/-! What all defs keep: every object but the tables of code objects, which grow. -/
namespace MX
open PySem PySem.Spec PyProof.Rows L2

def Kp (H H' : Hp) : Prop := (∀ b o, H b = some o → (∀ ps, o ≠ .tbl ps) → H' b = some o) ∧
  ∀ b ps, H b = some (.tbl ps) → ∃ more, H' b = some (.tbl (ps ++ more)) ∧ (TriplesOk ps.toList → TriplesOk (ps ++ more).toList)
theorem Kp.refl (H : Hp) : Kp H H := ⟨fun _ _ e _ => e, fun b ps e => ⟨#[], by rw [e]; simp, fun h => by simpa using h⟩⟩
theorem Kp.trans {H H1 H2 : Hp} (a : Kp H H1) (b : Kp H1 H2) : Kp H H2 := by
  refine ⟨fun c o e n => b.1 c o (a.1 c o e n) n, fun c ps e => ?_⟩
  obtain ⟨m1, e1, t1⟩ := a.2 c ps e
  obtain ⟨m2, e2, t2⟩ := b.2 c _ e1
  exact ⟨m1 ++ m2, by rw [e2, Array.append_assoc], fun h => by rw [← Array.append_assoc]; exact t2 (t1 h)⟩
theorem Kp.put {H0 H : Hp} {p : Addr} {o : HO} (k : Kp H0 H) (hp : H0 p = none) : Kp H0 (upd H p o) := by
  refine ⟨fun c u e n => ?_, fun c ps e => ?_⟩
  · rw [upd_ne (ne_of_none e hp)]
    exact k.1 c u e n
  · rw [upd_ne (ne_of_none e hp)]
    exact k.2 c ps e
theorem Kp.new {H : Hp} {p : Addr} {o : HO} (hp : H p = none) : Kp H (upd H p o) := (Kp.refl H).put hp
theorem Kp.free {H H' : Hp} {p : Addr} (k : Kp H H') (h : H' p = none) : H p = none := by
  cases e : H p with
  | none => rfl
  | some o =>
    by_cases ht : ∃ ps, o = .tbl ps
    · obtain ⟨ps, rfl⟩ := ht
      obtain ⟨m, e1, _⟩ := k.2 p ps e
      rw [h] at e1
      cases e1
    · have e1 := k.1 p o e fun ps q => ht ⟨ps, q⟩
      rw [h] at e1
      cases e1
theorem Kp.lst {H H' : Hp} {p : Addr} {xs : List V} (k : Kp H H') (h : H p = some (.lst xs)) : H' p = some (.lst xs) := k.1 _ _ h fun _ z => by cases z
theorem Kp.tup {H H' : Hp} {p : Addr} {xs : List V} (k : Kp H H') (h : H p = some (.tup xs)) : H' p = some (.tup xs) := k.1 _ _ h fun _ z => by cases z
theorem Kp.dT {H H' : Hp} {p : Addr} {kvs} (k : Kp H H') (h : H p = some (.dT kvs)) : H' p = some (.dT kvs) := k.1 _ _ h fun _ z => by cases z
theorem Kp.dK {H H' : Hp} {p : Addr} {kvs} (k : Kp H H') (h : H p = some (.dK kvs)) : H' p = some (.dK kvs) := k.1 _ _ h fun _ z => by cases z
theorem Kp.ins {H H' : Hp} {p C dx : Addr} {fs} (k : Kp H H') (h : H p = some (.ins C dx fs)) : H' p = some (.ins C dx fs) := k.1 _ _ h fun _ z => by cases z
theorem Kp.frz {H H' : Hp} {p : Addr} {o u} (k : Kp H H') (h : H p = some (.frz o u)) : H' p = some (.frz o u) := k.1 _ _ h fun _ z => by cases z
theorem Kp.ext {H H' : Hp} {p : Addr} {f} (k : Kp H H') (h : H p = some (.ext f)) : H' p = some (.ext f) := k.1 _ _ h fun _ z => by cases z
theorem Kp.rd {H H' : Hp} {p : Addr} {u : HO} (k : Kp H H') (n : ∀ ps, u ≠ .tbl ps) (h : Rd H p u) : Rd H' p u := by
  rcases h with h | ⟨o, h⟩
  · exact .inl (k.1 _ _ h n)
  · exact .inr ⟨o, k.frz h⟩
theorem Kp.sqL {K : PySem.W.Frag} {H H' : Hp} {a : Addr} {xs : List V} (k : Kp H H') (h : SqL K H a xs) : SqL K H' a xs := by
  rcases h with h | h
  · exact .inl (k.rd (fun _ z => by cases z) h)
  · exact .inr h
theorem Kp.sqT {K : PySem.W.Frag} {H H' : Hp} {a : Addr} {xs : List V} (k : Kp H H') (h : SqT K H a xs) : SqT K H' a xs := by
  rcases h with h | h
  · exact .inl (k.rd (fun _ z => by cases z) h)
  · exact .inr h
mutual
theorem Kp.dp {K : PySem.W.Frag} {H H' : Hp} (k : Kp H H') : ∀ {v : V} {d : PyData}, Dp K H v d → Dp K H' v d
  | _, _, .non => .non
  | _, _, .bl b => .bl b
  | _, _, .int i => .int i
  | _, _, .str x => .str x
  | _, _, .lst h a => .lst (k.sqL h) (k.dpAll a)
  | _, _, .tup h a => .tup (k.sqT h) (k.dpAll a)
theorem Kp.dpAll {K : PySem.W.Frag} {H H' : Hp} (k : Kp H H') : ∀ {vs : List V} {ds : List PyData}, DpAll K H vs ds → DpAll K H' vs ds
  | _, _, .nil => .nil
  | _, _, .cons h t => .cons (k.dp h) (k.dpAll t)
end
theorem Kp.tab {H H' : Hp} {P : Addr} (k : Kp H H') (h : GxR.TabG H P) : GxR.TabG H' P := by
  obtain ⟨ps, e, t⟩ := h
  obtain ⟨m, e1, t1⟩ := k.2 P ps e
  exact ⟨_, e1, t1 t⟩

theorem Kp.unlock {H H' : Hp} {d : Addr} {od : Obj} {u : HO} (h : H d = some u) (n : ∀ ps, u ≠ .tbl ps) (k : Kp (upd H d (.frz od u)) H') : Kp H (upd H' d u) := by
  refine ⟨fun b o e no => ?_, fun b ps e => ?_⟩
  · by_cases hb : b = d
    · rw [hb, h] at e
      cases e
      rw [hb, upd_same]
    · rw [upd_ne hb]
      exact k.1 b o (by rw [upd_ne hb]; exact e) no
  · by_cases hb : b = d
    · rw [hb, h] at e
      cases e
      exact absurd rfl (n ps)
    · rw [upd_ne hb]
      exact k.2 b ps (by rw [upd_ne hb]; exact e)

end MX
namespace L2
open PySem PySem.Spec PyProof.Rows
/-! ### data -/
section
variable {K : PySem.W.Frag} {H : Hp}
theorem DpAll.length : ∀ {vs : List V} {ds : List PyData}, DpAll K H vs ds → vs.length = ds.length
  | _, _, .nil => rfl
  | _, _, .cons _ t => by rw [List.length_cons, List.length_cons, DpAll.length t]
theorem DpAll.get : ∀ {vs : List V} {ds : List PyData} {i : Nat} {v : V}, DpAll K H vs ds → vs[i]? = some v → ∃ d, ds[i]? = some d ∧ Dp K H v d
  | _, _, i, v, .nil, e => by simp at e
  | _, _, 0, v, .cons h _, e => by
    simp at e
    subst e
    exact ⟨_, rfl, h⟩
  | _, _, i + 1, v, .cons _ t, e => by
    obtain ⟨d, h1, h2⟩ := DpAll.get (i := i) (v := v) t (by simpa using e)
    exact ⟨d, by simpa using h1, h2⟩
theorem DpAll.getD : ∀ {vs : List V} {ds : List PyData} {i : Nat} {d : PyData}, DpAll K H vs ds → ds[i]? = some d → ∃ v, vs[i]? = some v ∧ Dp K H v d
  | _, _, i, v, .nil, e => by simp at e
  | _, _, 0, v, .cons h _, e => by
    simp at e
    subst e
    exact ⟨_, rfl, h⟩
  | _, _, i + 1, v, .cons _ t, e => by
    obtain ⟨d, h1, h2⟩ := DpAll.getD (i := i) (d := v) t (by simpa using e)
    exact ⟨d, by simpa using h1, h2⟩
theorem DpAll.append : ∀ {vs ws : List V} {ds es : List PyData}, DpAll K H vs ds → DpAll K H ws es → DpAll K H (vs ++ ws) (ds ++ es)
  | _, _, _, _, .nil, h => h
  | _, _, _, _, .cons a t, h => .cons a (DpAll.append t h)
theorem DpAll.one {v : V} {d : PyData} (h : Dp K H v d) : DpAll K H [v] [d] := .cons h .nil
theorem DpAll.drop : ∀ {vs : List V} {ds : List PyData} (n : Nat), DpAll K H vs ds → DpAll K H (vs.drop n) (ds.drop n)
  | _, _, 0, h => h
  | _, _, n + 1, .nil => .nil
  | _, _, n + 1, .cons _ t => DpAll.drop n t
theorem DpAll.take : ∀ {vs : List V} {ds : List PyData} (n : Nat), DpAll K H vs ds → DpAll K H (vs.take n) (ds.take n)
  | _, _, 0, _ => .nil
  | _, _, n + 1, .nil => .nil
  | _, _, n + 1, .cons a t => .cons a (DpAll.take n t)
theorem DpAll.ints : ∀ {vs : List V} {ns : List Int}, DpAll K H vs (ns.map .int) → vs = ns.map V.int
  | _, [], .nil => rfl
  | _, _ :: _, .cons (.int _) t => by rw [List.map_cons, ← DpAll.ints t]
theorem dpAll_ints : ∀ (ns : List Int), DpAll K H (ns.map V.int) (ns.map .int)
  | [] => .nil
  | _ :: ns => .cons (.int _) (dpAll_ints ns)
/-- a tuple of whole numbers -/
abbrev itD (ns : List Int) : PyData := .tuple (ns.map .int)
theorem Dp.it {v : V} {ns : List Int} (h : Dp K H v (itD ns)) : ∃ a, v = .ref a ∧ SqT K H a (ns.map V.int) := by
  cases h with
  | tup h a => exact ⟨_, rfl, by rw [← DpAll.ints a]; exact h⟩
theorem dp_it {a : Addr} {ns : List Int} (h : SqT K H a (ns.map V.int)) : Dp K H (.ref a) (itD ns) := .tup h (dpAll_ints ns)
theorem dp_bool {v : V} {b : Bool} (h : Dp K H v (.bool b)) : v = .bl b := by cases h; rfl
theorem dp_int {v : V} {i : Int} (h : Dp K H v (.int i)) : v = .int i := by cases h; rfl
theorem dp_none {v : V} (h : Dp K H v .none) : v = .non := by cases h; rfl
theorem dp_tup {v : V} {ds : List PyData} (h : Dp K H v (.tuple ds)) : ∃ a xs, v = .ref a ∧ SqT K H a xs ∧ DpAll K H xs ds := by
  cases h with
  | tup h a => exact ⟨_, _, rfl, h, a⟩
theorem dp_lst {v : V} {ds : List PyData} (h : Dp K H v (.list ds)) : ∃ a xs, v = .ref a ∧ SqL K H a xs ∧ DpAll K H xs ds := by
  cases h with
  | lst h a => exact ⟨_, _, rfl, h, a⟩
end

end L2
namespace MX
open PySem PySem.Spec PyProof.Rows L2
/-! ### a def that may be called by its name -/
structure Cal (P : Program) (w : World) (K : PySem.W.Frag) (mg : Str → Option Value) (base : Heap) (k : Nat) (x : Str) (ps : List Str) (sp : Sp) : Prop where
  ex : ∃ (f : Addr) (fd : FuncData), FnOk P w K mg base CX0 k f fd ps sp ∧ mg x = some (.ref f) ∧ PySem.W.keepIn K (.ref f) = true ∧ Binds K fd ps []
section
variable {X : Cx} {k j : Nat} {x : Str} {ps : List Str} {sp : Sp} {p pos : Pos} {e : Expr} {es : List Expr} {t : TA}
theorem pe_cal (c : Cal X.prog X.w X.K X.mg X.base k x ps sp) (hr : Room j X.A) (hk : k ≤ j) (hg : Gl X x) (ha : PA X (e :: es) t)
    (hdb : (x == ("__debug__" : Str)) = false := by decide) (he : starEach (e :: es) X.env = (false, eval e X.env) :: starEach es X.env := by rfl) (hpl : (backTo pos (starEach es X.env)).any (·.1) = false := by rfl) :
    PE X (.Call (.Name x p) (e :: es) [] pos) (tCall sp [] E0 t) := by
  obtain ⟨f, fd, F, hm, kp, b⟩ := c.ex
  exact pe_call F (hr.mono hk) hg hm kp b .nil pass0 ha hdb he hpl
end
/-- a def of the text: its code object stands at c -/
structure FunC (K : PySem.W.Frag) (mg : Str → Option Value) (x : Str) (st : Stmt) (f : Addr) (fd : FuncData) (c : Addr) : Prop where
  ex : ∃ (oc : Value) (od : Option Addr) (kV doc pm : Value) (an : Option Addr) (ct : Value) (osl : Array (Option Value)),
    fd = PySem.W.fnOf x x (defArgs st) (defBody st) (defScope st) .none kV doc pm an (.ref c) ct ∧ K.lookup f = some ⟨oc, od, .func fd, osl⟩ ∧ PySem.W.codeIn K (.ref c) x = true
  kp : PySem.W.keepIn K (.ref f) = true
  gl : mg x = some (.ref f)
section
variable {P : Program} {w : World} {K : PySem.W.Frag} {mg : Str → Option Value} {base : Heap}
theorem FunC.cal {x : Str} {st : Stmt} {f c : Addr} {fd : FuncData} {N ps : List Str} {k : Nat} {sp : Sp} (F : FunC K mg x st f fd c) (S : FnScope N ps (defScope st)) (len : ∀ vs H Q E, sp vs H Q E → vs.length = ps.length)
    (hb : ∀ (kV doc pm : Value) (an : Option Addr) (cdv ct : Value) (us : List Value), us.length = ps.length → bindArgs (PySem.W.fnOf x x (defArgs st) (defBody st) (defScope st) .none kV doc pm an cdv ct) ⟨us, []⟩ = pure (ps.zip us))
    (hbody : ∀ (A : Around) (outer : List Env) (s : Shared) (H : Hp) (vs : List V) (Q : VK), Room k (A.deeper (envOfC x (defScope st) s.heap.objs.size f (.ref c))) → sp vs H Q E0 →
      ∃ t, PSs (cxOf CX0 P w K mg base N x (defScope st) f (.ref c) A outer s H E0).nox (defBody st) t ∧ t { nx := fun _ H' => Q .non H', rt := Q } (start N vs) H) (hE : ∀ vs H Q E, sp vs H Q E → sp vs H Q E0) : Cal P w K mg base (k + 1) x ps sp := by
  obtain ⟨oc, od, kV, doc, pm, an, ct, osl, rfl, lk, hcd⟩ := F.ex
  refine ⟨f, _, fn_of lk hcd S len fun A outer s H vs Q E hr hsp => ?_, F.gl, F.kp, .all (hb kV doc pm an (.ref c) ct)⟩
  obtain ⟨t, h, q⟩ := hbody A outer s H vs Q hr (hE _ _ _ _ hsp)
  refine ⟨t, ?_, q⟩
  exact h.nox
end
end MX
end

section
set_option Elab.async false
set_option linter.all false
set_option maxRecDepth 100000
set_option maxHeartbeats 2000000
/-! all(elt for target in iter): elements of any kind that give a truth value (they may call defs). -/
namespace MX
open PySem PySem.Spec PyProof.Rows L2

/-- the context within the generator's own frame -/
abbrev gcx (X : Cx) (A : Around) (s : Shared) (H : Hp) (scope : Scope) (cenv : Env) (fp : List Addr) : Cx :=
  { X with A := A, s_0 := s, H_0 := H, env := cenv, outer := X.stack, stack := cenv :: X.stack, ex := fp, fn := fun x => scope.names.lookup x == some .cell, calm := true, pn := [], xe := fun _ _ => False }

/-- the generator's scope: no name of it is captured further -/
structure GScp (scope : Scope) : Prop where
  co : scope.isCoroutine = false
  cell : ∀ y ∈ scope.names, y.2 ≠ .cell
  dot : scope.names.lookup (".0" : Str) = some NameKind.local

/-- other generators' states, other tokens: nothing else -/
theorem inv_gens {X : Cx} {pins : List (Addr × Obj)} {σ : L2.St} {H : Hp} {s : Shared} {g' : Array GenState} {d' : Drawn} {t' : Nat} (I : Inv X pins σ H s) (hg : AllBare g') :
    Inv X pins σ H { s with gens := g', drawn := d', toks := t' } :=
  I.step (h' := s.heap) (ch := []) (fun b hb => absurd hb (by simp)) (fun b o _ _ _ e _ => e) (fun b o _ _ _ e _ => ⟨o.slots, e⟩) (fun _ _ _ _ n => n) (fun b o _ e => ⟨o, e⟩)
    (fun _ _ e => e) (fun _ _ _ e => e) (fun b ps e => ⟨#[], by rw [e]; simp⟩) (fun _ h => h) I.hok hg

theorem sh_same (s s' : Shared) (h1 : s'.os = s.os) (h2 : s'.heap = s.heap) : ({ s with gens := s'.gens, drawn := s'.drawn, toks := s'.toks } : Shared) = s' := by
  cases s'
  cases h1
  cases h2
  rfl
/-- .. the state as it comes -/
theorem inv_quiet {X : Cx} {pins : List (Addr × Obj)} {σ : L2.St} {H : Hp} {s s' : Shared} (I : Inv X pins σ H s) (h1 : s'.os = s.os) (h2 : s'.heap = s.heap) (hg : AllBare s'.gens) : Inv X pins σ H s' := by
  have J := inv_gens (g' := s'.gens) (d' := s'.drawn) (t' := s'.toks) I hg
  rwa [sh_same s s' h1 h2] at J

section
variable {X : Cx} {pins : List (Addr × Obj)} {σ : L2.St} {H : Hp} {s : Shared}

theorem clo_mem {X : Cx} {pins : List (Addr × Obj)} {σ : L2.St} {H : Hp} {s : Shared} {scope : Scope} {own : List (Str × Nat)} (I : Inv X pins σ H s) (ok : BlkOk X.N X.env.scope scope own) {y : Str} {c : Addr}
    (hm : (y, c) ∈ cloFrom X.env.cells scope.names []) : X.env.cells.lookup y = some c ∧ c < s.heap.objs.size := by
  rcases cloFrom_mem hm with hm | ⟨h1, h2⟩
  · cases hm
  · have hf : ∃ c, X.env.cells.lookup y = some c := by
      rcases ok.free _ h1 rfl with k | k
      · exact I.ok.has _ (.inl k)
      · exact I.ok.has _ (.inr k)
    obtain ⟨c', hc⟩ := hf
    have e : c = c' := by rw [h2, hc]; rfl
    subst e
    obtain ⟨w, z⟩ := I.cell _ _ hc
    exact ⟨hc, z.lt⟩

/-- the state in which the generator's frame stands, in its own context -/
theorem gen_inv {scope : Scope} {own : List (Str × Nat)} {fp : List Addr} {A : Around} {code : Value} {bi : Addr} {a : Addr} {og : Obj} {s' : Shared} {it : Value}
    (I : Inv X pins σ H s) (ok : BlkOk X.N X.env.scope scope own) (hN : X.N.Nodup) (G : GScp scope) (hfp : ∀ b ∈ fp, FpOk X pins H b ∧ b < s.heap.objs.size) (hA : A.frames = some (genEnv scope (cloFrom X.env.cells scope.names []) s.heap.objs.size code bi X.env :: X.stack))
    (hh : A.handled = none) (hb : bi = builtinsNs) (kp : ∀ b o, s.heap.get? b = some o → s'.heap.get? b = some o) (hns : s'.heap.Ns s.heap.objs.size (fun y => if y = ".0" then some it else none))
    (hos : s'.os = s.os) (hg : AllBare s'.gens) (ha : s'.heap.get? a = some og) (hag : s.heap.objs.size < a) (hod : ∀ v, og.data ≠ .cell v) :
    Inv (gcx X A s H scope (genEnv scope (cloFrom X.env.cells scope.names []) s.heap.objs.size code bi X.env) fp) [(a, og)] (wipe σ (own.map (·.2))) H s' := by
  generalize hcl : cloFrom X.env.cells scope.names [] = cl
  have cm : ∀ {y c}, (y, c) ∈ cl → X.env.cells.lookup y = some c ∧ c < s.heap.objs.size := fun {y c} hm => clo_mem I ok (by rw [hcl]; exact hm)
  have lk : ∀ {y c}, cl.lookup y = some c → X.env.cells.lookup y = some c ∧ c < s.heap.objs.size := fun {y c} e => cm (PySem.mem_of_lookup e)
  have look : ∀ {y}, scope.names.lookup y = some .free → ∃ c, cl.lookup y = some c ∧ X.env.cells.lookup y = some c := fun {y} hl => by
    have hy : (y, NameKind.free) ∈ scope.names := PySem.mem_of_lookup hl
    obtain ⟨c', e'⟩ := mem_lookup (cloFrom_has (cells := X.env.cells) (acc := []) hy)
    rw [hcl] at e'
    exact ⟨c', e', (lk e').1⟩
  have notcell : ∀ {y}, scope.names.lookup y ≠ some .cell := fun {y} e => G.cell _ (PySem.mem_of_lookup e) rfl
  have okB : (gcx X A s H scope (genEnv scope cl s.heap.objs.size code bi X.env) fp).Ok := by
    refine ⟨I.ok.mod, ok.kind, I.ok.glob, hb, Nat.le_refl _, fun y z c e1 e2 => ?_, fun y hy => ?_, fun y c z e => ?_, fun _ => hh, by rw [hcl] at hA; exact hA, .inr ⟨rfl, rfl⟩,
      fun b hb => ⟨Nat.ne_of_lt (hfp b hb).2, fun y c e z => ?_⟩, I.bs, Nat.le_trans I.ok.bsz I.sz, fun b o e hb => ?_, fun b hb z => ?_, I.stack, I.stkFree⟩
    · exact I.ok.inj y z c (lk e1).1 (lk e2).1
    · rcases hy with hy | hy
      · exact absurd hy notcell
      · obtain ⟨c, h1, _⟩ := look hy
        exact ⟨c, h1⟩
    · have z : (scope.names.lookup y == some NameKind.cell) = true := z
      exact absurd (by simpa using z) (notcell (y := y))
    · have e : cl.lookup y = some c := e
      exact (hfp b hb).1.2.2.2.2.1 y c (lk e).1 z
    · rcases (hfp b hb).1.2.2.2.1 with z | z
      · exact I.ok.noex b o e z
      · exact absurd (Nat.lt_of_lt_of_le (Heap.lt_size e) (Nat.le_trans I.ok.bsz z)) (Nat.lt_irrefl _)
    · rcases List.mem_cons.mp (I.stkSub b z) with z | z
      · exact (hfp b hb).1.2.1 z
      · exact (hfp b hb).1.2.2.1 z
  refine ⟨okB, hos, hg, Un.kept kp, ⟨_, hns, fun i y av e1 e2 e3 => ?_⟩, fun y c e => ?_, I.hok.fresh (Nat.le_refl _), fun y c e => ?_, fun p hp => ?_, I.hok.kept kp, by rw [wipe_length]; exact I.len⟩
  · obtain ⟨e2, hne⟩ := wipe_some e2
    have hfr : scope.names.lookup y = some .free := by
      have no : ∀ k, scope.names.lookup y = some k → (k = .local ∨ k = .cell) → False := fun k e hh => by
        rcases ok.own _ (PySem.mem_of_lookup e) hh with e' | e'
        · obtain ⟨p, hp, hpy⟩ := List.mem_map.mp e'
          have e3 := ok.ix p hp
          have q : p.1 = y := hpy
          rw [q] at e3
          exact hne (List.mem_map.mpr ⟨p, hp, nodup_ix hN e3 e1⟩)
        · exact e' (List.mem_of_getElem? e1)
      have e3 : Vis scope y := e3
      rcases e3 with e3 | e3 | e3
      · exact (no _ e3 (.inl rfl)).elim
      · exact (no _ e3 (.inr rfl)).elim
      · exact e3
    obtain ⟨m, hn, hl⟩ := I.loc
    have hvis : Vis X.env.scope y := (ok.free _ (PySem.mem_of_lookup hfr) rfl).elim (fun k => .inr (.inl k)) (fun k => .inr (.inr k))
    obtain ⟨w, r, q⟩ := hl i y av e1 e2 hvis
    obtain ⟨c, h1, h2⟩ := look hfr
    refine ⟨w, r, .inr ⟨.inr hfr, c, h1, ?_⟩⟩
    rcases q with ⟨k, _⟩ | ⟨_, c', e', z⟩
    · have k : X.env.scope.names.lookup y = some .local := k
      rcases ok.free _ (PySem.mem_of_lookup hfr) rfl with k' | k' <;> rw [show X.env.scope.names.lookup y = _ from k'] at k <;> cases k
    · rw [h2] at e'
      cases e'
      exact z.keeps kp
  · have e : cl.lookup y = some c := e
    obtain ⟨w, z⟩ := I.cell y c (lk e).1
    exact ⟨w, z.keeps kp⟩
  · have e : cl.lookup y = some c := e
    exact I.freeC y c (lk e).1
  · have hp : p ∈ [(a, og)] := by simpa using hp
    rw [List.mem_singleton.mp hp]
    refine ⟨ha, I.hok.fresh (Nat.le_of_lt hag), Nat.ne_of_gt hag, fun z => ?_, hod⟩
    have z1 : a ∈ frs X.stack := z
    rcases List.mem_cons.mp (I.stkSub a z1) with z | z
    · exact absurd (z ▸ I.lt) (Nat.not_lt.mpr (Nat.le_of_lt hag))
    · exact I.nofs (Nat.le_of_lt hag) z
end
end MX
end

section
set_option Elab.async false
set_option linter.all false
set_option maxRecDepth 100000
set_option maxHeartbeats 2000000
namespace MX
open PySem PySem.Spec PyProof.Rows L2

/-- a truth value is handed out; nothing but the generators' states changes until the next one is asked for -/
def YP (X : Cx) (pins : List (Addr × Obj)) (sw : L2.St) (QF : Hp → Prop) : Protocol := fun _ _ v s kap =>
  ∃ b H', v = .bool b ∧ Inv X pins sw H' s ∧ (b = false → QF H') ∧ (b = true → ∀ s'' : Shared, s''.heap = s.heap → s''.os = s.os → AllBare s''.gens → kap (.send .none) s'')
/-- the generator has come to its end -/
def RP (X : Cx) (pins : List (Addr × Obj)) (sw : L2.St) (QT : Hp → Prop) : Nat → Shared → Shared → Prop := fun _ _ s₁ => ∃ H', Inv X pins sw H' s₁ ∧ QT H'

/-- one turn of the reading -/
def GTurn (J : It) (W : Nat → Nat → Hp → Prop) (g : TG) (te : TE) (vs : List Nat) (sw : L2.St) (QT QF : Hp → Prop) : Prop :=
  ∀ i m H, W i m H → (J.stop i H ∧ QT H) ∨ (J.go i H ∧ ∃ Nx : Hp → Prop, (∀ H', Nx H' → ∃ m', m' < m ∧ W (i + 1) m' H') ∧
    ∀ x H', J.yld i H x H' → g x sw H' fun σ2 H2 => wipe σ2 vs = sw ∧ te σ2 H2 fun y H3 => ∃ b, y = .bl b ∧ if b = true then Nx H3 else QF H3)

section
variable {X : Cx} {s0 : Shared} {H0 : Hp} {scope : Scope} {cenv : Env} {fp : List Addr} {elt tg iter : Expr} {pos : Pos} {it a : Addr} {og : Obj} {J : It} {tn : Nat → Heap → Prop} {W : Nat → Nat → Hp → Prop} {g : TG} {te : TE} {vs : List Nat}
  {sw : L2.St} {QT QF : Hp → Prop} {Aw : Around}

abbrev gcode (elt tg iter : Expr) (scope : Scope) (pos : Pos) (it : Addr) (cenv : Env) : Code := .compLoop (.GeneratorExp elt [⟨tg, iter, [], 0⟩] scope pos) 0 (.ref it) .none cenv

theorem gen_seg (T : Turn X.prog X.w X.K tg J fp it tn) (haf : a ∉ fp) (hco : cenv.scope.isCoroutine = false)
    (pg : PG (gcx X (Aw.over (gcode elt tg iter scope pos it cenv) []) s0 H0 scope cenv fp) tg g) (pe : PE (gcx X (Aw.over (gcode elt tg iter scope pos it cenv) []) s0 H0 scope cenv fp) elt te) (turn : GTurn J W g te vs sw QT QF) :
    ∀ (n m i : Nat) (H : Hp) (s₀ s : Shared), m < n → Inv (gcx X (Aw.over (gcode elt tg iter scope pos it cenv) []) s0 H0 scope cenv fp) [(a, og)] sw H s → tn i s.heap → (∀ b ∈ fp, H b = none) → W i m H →
      Seg (model X.prog X.w) Aw (fun n s₀ r s₁ => r = .ok .next ∧ RP (gcx X (Aw.over (gcode elt tg iter scope pos it cenv) []) s0 H0 scope cenv fp) [(a, og)] sw QT n s₀ s₁)
        (YP (gcx X (Aw.over (gcode elt tg iter scope pos it cenv) []) s0 H0 scope cenv fp) [(a, og)] sw QF) n s₀ (gcode elt tg iter scope pos it cenv) ((model X.prog X.w).den (gcode elt tg iter scope pos it cenv)) [] s := by
  have stat : ∀ {σ' : L2.St} {H' : Hp} {s' : Shared}, Inv (gcx X (Aw.over (gcode elt tg iter scope pos it cenv) []) s0 H0 scope cenv fp) [(a, og)] σ' H' s' → (∀ b ∈ fp, H' b = none) → ∀ b ∈ fp, FpOk (gcx X (Aw.over (gcode elt tg iter scope pos it cenv) []) s0 H0 scope cenv fp) [(a, og)] H' b := fun {σ' H' s'} I' hn b hb =>
    ⟨hn b hb, (I'.ok.exf b hb).1, I'.ok.exfs b hb, .inl hb, fun x c e => (I'.ok.exf b hb).2 x c e, fun p hp => by
      have hp : p ∈ [(a, og)] := by simpa using hp
      rw [List.mem_singleton.mp hp]
      exact fun (z : a = b) => haf (by rw [z]; exact hb)⟩
  intro n
  induction n with
  | zero => intro m i H s₀ s hm; exact absurd hm (Nat.not_lt_zero _)
  | succ n ih =>
    intro m i H s₀ s hm I st nfp w
    show Seg _ Aw _ _ (n + 1) s₀ _ ((compTurn (.GeneratorExp elt [⟨tg, iter, [], 0⟩] scope pos) 0 (.ref it) .none cenv).onRaise (leaving cenv)) [] s
    rw [compTurn_gen, Sem.onRaise_eq_wrap]
    refine seg_bind_wrap (wpAny_standAt ?_)
    rcases turn i m H w with ⟨stop, qq⟩ | ⟨go, Nx, hNx, step⟩
    · have td := T.done (gcx X (Aw.over (gcode elt tg iter scope pos it cenv) []) s0 H0 scope cenv fp) rfl rfl rfl rfl i [(a, og)] s sw H (fun _ _ => False) I (stat I nfp) st stop
      refine seg_bind_wrap (wpAny_mono td (fun r s6 h6 => ?_) fun _ _ e => e.elim)
      obtain ⟨hr, I6⟩ := h6
      subst hr
      exact seg_end (.ok .next) ⟨rfl, H, I6, qq⟩
    · have ti := T.item (gcx X (Aw.over (gcode elt tg iter scope pos it cenv) []) s0 H0 scope cenv fp) rfl rfl rfl rfl i [(a, og)] s sw H (fun _ _ => False) I (stat I nfp) st go
      refine seg_bind_wrap (wpAny_mono ti (fun r s6 h6 => ?_) fun _ _ e => e.elim)
      obtain ⟨u, hr, h6⟩ := h6
      subst hr
      refine seg_bind_wrap (wpAny_mono h6 (fun _ s7 h7 => ?_) fun _ _ e => e.elim)
      obtain ⟨x, H7, I7, r7, y7, st7, n7⟩ := h7
      have I7' := I7.pinned (stat I7 n7) (T.obj _ _ st7)
      refine seg_bind_wrap (wpAny_mono (pg.run _ s7 sw H7 x u _ I7' r7 (step x H7 y7)) (fun _ s8 h8 => ?_) fun _ _ e => e.elim)
      obtain ⟨σ8, H8, I8, hw8, q8⟩ := h8
      refine seg_bind_wrap ?_
      simp only [List.forIn_nil]
      refine wpAny_pure ?_
      simp only [if_true]
      have hy : ∀ v, yieldOut cenv v = yieldValue v := fun v => by simp only [yieldOut, hco, Bool.false_eq_true, if_false]
      simp only [hy]
      rw [Sem.bind_eq_wrap', Sem.bind_eq_wrap', Sem.wrap_wrap, Sem.wrap_wrap]
      refine seg_wrap (wpAny_mono (pe.run _ s8 σ8 H8 _ I8 q8) (fun y s9 h9 => ?_) fun _ _ e => e.elim)
      obtain ⟨yv, H9, I9, r9, b, hb, q9⟩ := h9
      subst hb
      have r9 : y = Value.bool b := r9
      subst r9
      have hl : sw.length = σ8.length := by rw [← hw8, wipe_length]
      have I9' : Inv (gcx X (Aw.over (gcode elt tg iter scope pos it cenv) []) s0 H0 scope cenv fp) [(a, og)] sw H9 s9 := (I9.unpinned).weak hl fun j v e => by
        rw [← hw8] at e
        exact (wipe_some e).1
      have pin' : ∀ b ∈ fp, ∀ o, s7.heap.get? b = some o → s9.heap.get? b = some o ∧ H9 b = none := fun b hb o e =>
        let z := I9.pin (b, o) (List.mem_append_right _ (List.mem_append_right _ (mem_pinsAt hb e)))
        ⟨z.1, z.2.1⟩
      refine seg_at (seg_yield rfl rfl rfl ⟨b, H9, rfl, I9', fun hb => ?_, fun hb s'' h1 h2 h3 => ?_⟩)
      · subst hb
        simpa using q9
      · subst hb
        have nx : Nx H9 := by simpa using q9
        obtain ⟨m', hm', w'⟩ := hNx H9 nx
        refine seg_again rfl (ih m' (i + 1) H9 s'' s'' (by omega) (inv_quiet I9' h2 h1 h3) ?_ (fun b hb => ?_) w')
        · rw [h1]
          exact T.keep _ _ _ st7 fun b hb o e => (pin' b hb o e).1
        · obtain ⟨o, e, _⟩ := T.obj _ _ st7 b hb
          exact (pin' b hb o e).2

/-- the generator has not begun -/
theorem gen_seg0 (T : Turn X.prog X.w X.K tg J fp it tn) (haf : a ∉ fp) (hco : cenv.scope.isCoroutine = false)
    (pg : PG (gcx X (Aw.over (gcode elt tg iter scope pos it cenv) []) s0 H0 scope cenv fp) tg g) (pe : PE (gcx X (Aw.over (gcode elt tg iter scope pos it cenv) []) s0 H0 scope cenv fp) elt te) (turn : GTurn J W g te vs sw QT QF)
    (m : Nat) (H : Hp) (s₀ s : Shared) (I : Inv (gcx X (Aw.over (gcode elt tg iter scope pos it cenv) []) s0 H0 scope cenv fp) [(a, og)] sw H s) (st : tn 0 s.heap) (nfp : ∀ b ∈ fp, H b = none) (w : W 0 m H) :
      Seg (model X.prog X.w) Aw (fun n s₀ r s₁ => r = .ok .next ∧ RP (gcx X (Aw.over (gcode elt tg iter scope pos it cenv) []) s0 H0 scope cenv fp) [(a, og)] sw QT n s₀ s₁)
        (YP (gcx X (Aw.over (gcode elt tg iter scope pos it cenv) []) s0 H0 scope cenv fp) [(a, og)] sw QF) (m + 1) s₀ (.compStart (.GeneratorExp elt [⟨tg, iter, [], 0⟩] scope pos) 0 (.ref it) .none cenv)
        ((model X.prog X.w).den (.compStart (.GeneratorExp elt [⟨tg, iter, [], 0⟩] scope pos) 0 (.ref it) .none cenv)) [] s := by
  have loop := gen_seg (elt := elt) (iter := iter) (pos := pos) T haf hco pg pe turn (m + 1) m 0 H s₀ s (Nat.lt_succ_self m) I st nfp w
  show Seg _ Aw _ _ _ s₀ _ ((compStart (.GeneratorExp elt [⟨tg, iter, [], 0⟩] scope pos) 0 (.ref it) .none cenv).onRaise (leaving cenv)) [] s
  unfold compStart
  rw [Sem.onRaise_eq_wrap]
  show Seg _ Aw _ _ _ s₀ _ ((ask >>= _).wrap _ _ _ _) [] s
  refine seg_bind_wrap (wpAny_askSetting ?_)
  split
  · exact seg_again rfl loop
  · first
      | exact seg_bind_wrap (wpAny_rule (seg_bind_wrap (wpAny_standAt (seg_bind_wrap (T.self _ 0 s _ _ st (seg_again rfl loop))))))
      | (refine seg_bind_wrap (wpAny_rule ?_); show Seg _ Aw _ _ _ s₀ _ ((standAt iter.pos >>= _).wrap _ _ _ _) [] s; exact seg_bind_wrap (wpAny_standAt (seg_bind_wrap (T.self _ 0 s _ _ st (seg_again rfl loop)))))
end

section
variable {X : Cx} {sw : L2.St} {QT QF : Hp → Prop} {X' : Cx} {a : Addr} {og : Obj} {gn : Nat}

/-- all(..)'s loop over such a generator -/
theorem all_loop {A : Around} {R : Result → Shared → Prop} (hh : A.handled = none) (hd : A.depth < recursionLimit) (hP : X'.prog = X.prog) (hw : X'.w = X.w)
    (hg : ∀ s : Shared, s.heap.get? a = some og → s.heap.IsGen a gn)
    (hT : ∀ H' s', Inv X' [(a, og)] sw H' s' → QT H' → ∀ s'', s''.os = s'.os → (∀ b o, s'.heap.get? b = some o → s''.heap.get? b = some o) → AllBare s''.gens → R (.ok (.ret (.bool true))) s'')
    (hF : ∀ H' s', Inv X' [(a, og)] sw H' s' → QF H' → ∀ s'', s''.os = s'.os → (∀ b o, s'.heap.get? b = some o → s''.heap.get? b = some o) → AllBare s''.gens → R (.ok (.ret (.bool false))) s'') :
    ∀ (n : Nat) (s : Shared) (gs : GenState), s.heap.get? a = some og → s.heap.NoLimit → AllBare s.gens → gn < s.gens.size → s.gens[gn]? = some gs →
      gs.Goes (model X.prog X.w) A.in1.in1 (fun n s₀ r s₁ => r = .ok .next ∧ RP X' [(a, og)] sw QT n s₀ s₁) (YP X' [(a, og)] sw QF) n (.send .none) (s.setGen gn .running) →
      codeAny (model X.prog X.w) A (.builtin "all.loop" ⟨[.ref a], []⟩) R s := by
  intro n
  induction n with
  | zero =>
    intro s gs ha hl hb hsz hgs hgo
    refine codeAny_builtin PySem.F.entry_all_loop ?_
    rw [Around.under_plainId PySem.F.plain_all_loop _]
    show wpAny _ A.in1 (pyNext (.ref a) >>= _) _ _ s
    refine wpAny_bind (wpAny_pyNext_genexpQ hh hl hd (hg s ha) hgs hgo (fun v s₁ gs' hbg hv => ?_) (fun s₁ hp h' hk => ?_))
    · obtain ⟨b, H', rfl, I', qf, qt⟩ := hv
      refine wpAny_bind (wpAny_holding (wpAny_truthy_bool ?_))
      refine wpAny_bind (wpAny_letGo ?_)
      cases b with
      | true => exact (qt rfl s₁ rfl rfl I'.bare).elim
      | false =>
        simp only [Bool.false_eq_true, if_false]
        exact wpAny_bind (wpAny_rule (wpAny_pure (hF H' s₁ I' (qf rfl) (s₁.setGen gn gs') rfl (fun _ _ e => e) (allBare_setGen I'.bare hbg))))
    · obtain ⟨H', I', qt⟩ := hp
      exact wpAny_bind (wpAny_rule (wpAny_pure (hT H' s₁ I' qt _ rfl hk (allBare_setGen I'.bare rfl))))
  | succ n ih =>
    intro s gs ha hl hb hsz hgs hgo
    refine codeAny_builtin PySem.F.entry_all_loop ?_
    rw [Around.under_plainId PySem.F.plain_all_loop _]
    show wpAny _ A.in1 (pyNext (.ref a) >>= _) _ _ s
    refine wpAny_bind ?_
    refine GenW.wpAny_gsz (n := gn + 1) hsz ?_
    refine wpAny_pyNext_genexpQ hh hl hd (hg s ha) hgs hgo (fun v s₁ gs' hbg hv => ?_) (fun s₁ hp h' hk => ?_)
    · intro hz
      rw [GenW.setGen_size] at hz
      obtain ⟨b, H', rfl, I', qf, qt⟩ := hv
      refine wpAny_bind (wpAny_holding (wpAny_truthy_bool ?_))
      refine wpAny_bind (wpAny_letGo ?_)
      cases b with
      | true =>
        simp only [if_true]
        have hpin := (I'.pin (a, og) (by simp)).1
        refine wpAny_pure ⟨plainId_quiet PySem.F.plain_all_loop _, ih (s₁.setGen gn gs') gs' hpin I'.nolimit (allBare_setGen I'.bare hbg) (by rw [GenW.setGen_size]; exact hz) (setGen_at hz) ?_⟩
        exact qt rfl _ rfl rfl (allBare_setGen (allBare_setGen I'.bare hbg) rfl)
      | false =>
        simp only [Bool.false_eq_true, if_false]
        exact wpAny_bind (wpAny_rule (wpAny_pure (hF H' s₁ I' (qf rfl) (s₁.setGen gn gs') rfl (fun _ _ e => e) (allBare_setGen I'.bare hbg))))
    · intro _
      obtain ⟨H', I', qt⟩ := hp
      exact wpAny_bind (wpAny_rule (wpAny_pure (hT H' s₁ I' qt _ rfl hk (allBare_setGen I'.bare rfl))))
end
end MX
end

section
set_option Elab.async false
set_option linter.all false
set_option maxRecDepth 100000
set_option maxHeartbeats 2000000
namespace MX
open PySem PySem.Spec PyProof.Rows L2

/-- all(elt for target in iter): P the def's table of code objects; W by the turn and a measure -/
def tAllG (P : Addr) (wi : TI) (g : TG) (te : TE) (vs : List Nat) : TE := fun σ H Q => wi σ H fun J H1 => GxR.TabG H1 P ∧ ∀ H2, Kp H1 H2 →
  ∃ W : Nat → Nat → Hp → Prop, (∃ m, W 0 m H2) ∧ GTurn J W g te vs (wipe σ vs) (fun H => Q (.bl true) H) (fun H => Q (.bl false) H)

theorem gen_room {k : Nat} {A : Around} {elt tg iter : Expr} {scope : Scope} {pos : Pos} {it : Addr} {cenv : Env} (r : Room (k + 1) A) : Room k (A.in1.in1.over (gcode elt tg iter scope pos it cenv) []) := by
  refine ⟨r.hd, ?_, ?_⟩
  · have h := r.dp
    show A.depth + 0 + 1 + 3 * k + 5 < _
    omega
  · have h := r.un
    show A.units + 1 + 1 + 0 + 3 + 16 * k + 200 < _
    omega

theorem isGen_at {h : Heap} {a : Addr} {g : Nat} {t1 t2 t3 : Tok} {q : Str} (e : h.get? a = some { cls := .type "generator", data := .fields #[.int g t1, .str "<genexpr>" t2, .str q t3] }) (ht : t1 = 0) : h.IsGen a g :=
  ⟨_, _, _, e, rfl, by rw [ht], rfl⟩

variable {X : Cx} {c P : Addr} {elt tg iter : Expr} {p pos gpos : Pos} {scope : Scope} {own : List (Str × Nat)} {wi : TI} {g : TG} {te : TE} {k : Nat}
theorem pe_allG (hN : X.N.Nodup) (hr : Room (k + 1) X.A) (hg : Gl X "all") (hm : X.mg "all" = none) (TB : GxR.TabB X.base X.mg c P) (hcode : X.env.code = .ref c)
    (hi : PI X tg iter wi) (ok : BlkOk X.N X.env.scope scope own) (G : GScp scope)
    (pg : ∀ (A : Around) (s : Shared) (H : Hp) (C : Addr) (cl : List (Str × Addr)) (code : Value) (bi : Addr) (fp : List Addr), PG (gcx X A s H scope (genEnv scope cl C code bi X.env) fp) tg g)
    (pe : ∀ (A : Around) (s : Shared) (H : Hp) (C : Addr) (cl : List (Str × Addr)) (code : Value) (bi : Addr) (fp : List Addr), Room k A → PE (gcx X A s H scope (genEnv scope cl C code bi X.env) fp) elt te)
    (hs : ∀ v, genFold iter X.env v = pure v := by intro _; rfl)
    (he : starEach [.GeneratorExp elt [⟨tg, iter, [], 0⟩] scope gpos] X.env = (false, eval (.GeneratorExp elt [⟨tg, iter, [], 0⟩] scope gpos) X.env) :: starEach [] X.env := by rfl) :
    PE X (.Call (.Name "all" p) [.GeneratorExp elt [⟨tg, iter, [], 0⟩] scope gpos] [] pos) (tAllG P wi g te (own.map (·.2))) := by
  refine ⟨fun pins s σ H Q I h => ?_⟩
  have hfree : ∀ y ∈ scope.names, y.2 = .free → ∃ c, X.env.cells.lookup y.1 = some c := fun y hy e => by
    rcases ok.free y hy e with k | k
    · exact I.ok.has _ (.inl k)
    · exact I.ok.has _ (.inr k)
  refine wpAny_Call_Name_kw (ld_blt I hg hm (show bootBuiltins "all" = some (.builtin "all") by decide +kernel) ?_)
  refine PyProof.Rows.callWith_builtin1 ?_ he (by rfl)
  rw [he]
  show wpAny _ _ (spliced ((false, eval (.GeneratorExp elt [⟨tg, iter, [], 0⟩] scope gpos) X.env) :: backTo pos (starEach [] X.env))) _ _ s
  refine Calls.spliced_cons ?_
  refine wpAny_GeneratorExp_make G.co (closure_ok hfree) G.cell G.dot ok.kind (by have := hr.dp; omega) ?_ hs
  refine thn (hi.run pins s σ H _ I h) fun xv s1 h1 => thn h1 fun itv s2 h2 => ?_
  obtain ⟨it, fp, tn, J, H1, rfl, I1, T, st1, f1, ⟨ps, hP, ht⟩, q⟩ := h2
  have hPs : s2.heap.get? P = some { cls := .none, data := .fields ps } := I1.hok P _ hP
  have cd : PySem.W.CodeHd s2.heap c P := TB.code.keeps fun b u e => I1.bk b u e
  have lim2 : s2.heap.NoLimit := I1.nolimit
  refine ⟨lim2, ?_⟩
  have nP : ∀ b ∈ fp, b ≠ P := fun b hb z => by
    have q := (f1 b hb).1
    rw [z, hP] at q
    cases q
  have sz1 : ∀ b ∈ fp, b < s2.heap.objs.size := fun b hb => by
    obtain ⟨o, e, _⟩ := T.obj _ _ st1 b hb
    exact Heap.lt_size e
  have cont : ∀ (code : Value) (h3 : Heap) (tk : Nat) (ps' : Array Value), Heap.ExtBut P s2.heap h3 → s2.heap.objs.size ≤ h3.objs.size → h3.get? P = some { cls := .none, data := .fields ps' } → (∃ more, ps' = ps ++ more) → TriplesOk ps'.toList →
      wpAny (model X.prog X.w) X.A (builtinsFor X.env.globals X.env.builtins) (fun bi s₄ =>
        ∀ h', h'.Ns s₄.heap.objs.size (fun y => if y = ".0" then some (Value.ref it) else none) → Heap.SameBut s₄.heap.objs.size (s₄.heap.push { cls := .type "frame", data := .dict #[] }) h' →
          wpAny (model X.prog X.w) X.A (spliced (backTo pos (starEach [] X.env))) (fun vs s' => wpAny (model X.prog X.w) X.A (call (.builtin "all") (Value.ref h'.objs.size :: vs)) (EP X pins σ Q) X.xe s') X.xe { s₄ with
            gens := s₄.gens.push (.fresh (.compStart (.GeneratorExp elt [⟨tg, iter, [], 0⟩] scope gpos) 0 (.ref it) .none (genEnv scope (cloFrom X.env.cells scope.names []) s₄.heap.objs.size code bi X.env))),
            toks := s₄.toks + 1 + 1 + 1,
            heap := h'.push { cls := .type "generator", data := .fields #[.int s₄.gens.size 0, .str "<genexpr>" (s₄.toks + 1), .str (X.env.qual ++ "<genexpr>") (s₄.toks + 1 + 1)] } }) X.xe { s2 with heap := h3, toks := tk } := by
    intro code h3 tk ps' hx hsz hP3 ⟨more, em⟩ ht3
    obtain ⟨bm, ob, e1, e2, e3, e4, e5, e6, e7, e8⟩ := TB.bm
    have I2 := GxR.inv_tab (more := more) (h' := h3) (g' := s2.gens) (d' := s2.drawn) (t' := tk) I1 hP (fun b u hb e => hx b u hb e) (by rw [← em]; exact hP3) I1.bare
    refine wpAny_builtinsFor (m := X.mg) (by rw [I1.ok.glob]; exact I2.mod.glob.keeps I2.bk) e1 e2 (I2.bk _ _ e5) e6 e7 e8 ?_
    have hT2 : Kp H1 (upd H1 P (.tbl (ps ++ more))) := by
      refine ⟨fun b o e n => ?_, fun b qs e => ?_⟩
      · by_cases hb : b = P
        · rw [hb, hP] at e
          cases e
          exact absurd rfl (n ps)
        · rw [upd_ne hb]
          exact e
      · by_cases hb : b = P
        · rw [hb, hP] at e
          cases e
          rw [hb]
          exact ⟨more, upd_same, fun _ => by rw [← em]; exact ht3⟩
        · rw [upd_ne hb, e]
          exact ⟨#[], by simp, fun h => by simpa using h⟩
    obtain ⟨W, ⟨m0, w0⟩, turn⟩ := q _ hT2
    have st2 : tn 0 h3 := T.keep _ _ _ st1 fun b hb o e => hx b o (nP b hb) e
    have f2 : ∀ b ∈ fp, FpOk X pins (upd H1 P (.tbl (ps ++ more))) b ∧ b < h3.objs.size := fun b hb =>
      ⟨⟨by rw [upd_ne (nP b hb)]; exact (f1 b hb).1, (f1 b hb).2⟩, Nat.lt_of_lt_of_le (sz1 b hb) hsz⟩
    intro h' hn' hs'
    have hsz' : h'.objs.size = h3.objs.size + 1 := by rw [hs'.1, Heap.size_push]
    have keep' : ∀ b o, h3.get? b = some o → h'.get? b = some o := fun b o e => hs'.extBut b o (Nat.ne_of_lt (Heap.lt_size e)) (Heap.get?_push_of_some _ e)
    refine Calls.spliced_nil ?_
    generalize hog : ({ cls := .type "generator", data := .fields #[.int s2.gens.size 0, .str "<genexpr>" (tk + 1), .str (X.env.qual ++ "<genexpr>") (tk + 1 + 1)] } : Obj) = og
    have hlt : h3.objs.size < h'.objs.size := by rw [hsz']; exact Nat.lt_succ_self _
    have hag : (h'.push og).get? h'.objs.size = some og := Heap.get?_push_size _ (by rw [← hog]; rfl)
    have hcenv : X.env.globals = X.env.globals := rfl
    generalize hce : genEnv scope (cloFrom X.env.cells scope.names []) h3.objs.size code builtinsNs X.env = cenv
    have hbare : AllBare (s2.gens.push (.fresh (.compStart (.GeneratorExp elt [⟨tg, iter, [], 0⟩] scope gpos) 0 (.ref it) .none cenv))) := I1.bare.push rfl
    have IG := gen_inv (A := X.A.in1.in1.over (gcode elt tg iter scope gpos it cenv) []) (code := code) (bi := builtinsNs) (a := h'.objs.size) (og := og)
      (s' := { s2 with gens := s2.gens.push (.fresh (.compStart (.GeneratorExp elt [⟨tg, iter, [], 0⟩] scope gpos) 0 (.ref it) .none cenv)), toks := tk + 1 + 1 + 1, heap := h'.push og }) (it := .ref it)
      I2 ok hN G f2 (by
        show pushEnvs [cenv] (pushEnvs [] X.A.frames) = some (genEnv scope (cloFrom X.env.cells scope.names []) h3.objs.size code builtinsNs X.env :: X.stack)
        rw [I1.ok.frames, hce]
        rfl) hr.hd rfl (fun b o e => Heap.get?_push_of_some _ (keep' b o e)) (hn'.push _) rfl hbare hag hlt (by rw [← hog]; intro v z; cases z)
    have pg' := pg (X.A.in1.in1.over (gcode elt tg iter scope gpos it cenv) []) { s2 with heap := h3, toks := tk } (upd H1 P (.tbl (ps ++ more))) h3.objs.size (cloFrom X.env.cells scope.names []) code builtinsNs fp
    have pe' := pe (X.A.in1.in1.over (gcode elt tg iter scope gpos it cenv) []) { s2 with heap := h3, toks := tk } (upd H1 P (.tbl (ps ++ more))) h3.objs.size (cloFrom X.env.cells scope.names []) code builtinsNs fp (gen_room hr)
    have IG : Inv (gcx X (X.A.in1.in1.over (gcode elt tg iter scope gpos it cenv) []) { s2 with heap := h3, toks := tk } (upd H1 P (.tbl (ps ++ more))) scope cenv fp) [(h'.objs.size, og)] (wipe σ (own.map (·.2))) (upd H1 P (.tbl (ps ++ more)))
      { s2 with gens := s2.gens.push (.fresh (.compStart (.GeneratorExp elt [⟨tg, iter, [], 0⟩] scope gpos) 0 (.ref it) .none cenv)), toks := tk + 1 + 1 + 1, heap := h'.push og } := by rw [← hce] at IG ⊢; exact IG
    rw [hce] at pg' pe'
    have isG : ∀ s : Shared, s.heap.get? h'.objs.size = some og → s.heap.IsGen h'.objs.size s2.gens.size := fun s e => isGen_at (t1 := 0) (by rw [hog]; exact e) rfl
    have nfp : ∀ b ∈ fp, (upd H1 P (.tbl (ps ++ more))) b = none := fun b hb => (f2 b hb).1.1
    have haf : h'.objs.size ∉ fp := fun z => absurd (f2 _ z).2 (Nat.not_lt.mpr (Nat.le_of_lt hlt))
    have back : ∀ H' s', Inv (gcx X (X.A.in1.in1.over (gcode elt tg iter scope gpos it cenv) []) { s2 with heap := h3, toks := tk } (upd H1 P (.tbl (ps ++ more))) scope cenv fp) [(h'.objs.size, og)] (wipe σ (own.map (·.2))) H' s' →
        ∀ s'' : Shared, s''.os = s'.os → (∀ b o, s'.heap.get? b = some o → s''.heap.get? b = some o) → AllBare s''.gens → Inv X pins σ H' s'' := fun H' s' I' s'' h1 h2 h3 => by
      have J : Inv X pins σ H' s' := I2.call' (ch := fp) I'.os I'.base I'.hok I'.bare fun b hb => ⟨(f2 b hb).1.2.2.2.1, (f2 b hb).1.2.1, (f2 b hb).1.2.2.2.2.1, (f2 b hb).1.2.2.2.2.2⟩
      have J2 := J.kept (h' := s''.heap) (t' := s'.toks) h2
      exact inv_quiet J2 h1 rfl h3
    have IG0 := IG
    refine call_function_tree PySem.F.kind_all PySem.F.plain_all PySem.F.entry_all (PySem.F.args_all1 _) ?_
    unfold Builtin.«all»
    refine wpAny_bind (m := oneArg "all" _) (wpAny_pure ?_)
    refine wpAny_bind (wpAny_pyIter_gen (isG _ hag) ?_)
    refine wpAny_pure ⟨plainId_quiet PySem.F.plain_all_loop _, ?_⟩
    have gsz : (s2.gens.push (.fresh (.compStart (.GeneratorExp elt [⟨tg, iter, [], 0⟩] scope gpos) 0 (.ref it) .none cenv))).size = s2.gens.size + 1 := Array.size_push ..
    refine all_loop (X := X) (X' := gcx X (X.A.in1.in1.over (gcode elt tg iter scope gpos it cenv) []) { s2 with heap := h3, toks := tk } (upd H1 P (.tbl (ps ++ more))) scope cenv fp) (sw := wipe σ (own.map (·.2))) (QT := fun H => Q (.bl true) H) (QF := fun H => Q (.bl false) H) hr.hd (by have := hr.dp; omega) rfl rfl isG
      (fun H' s' I' q s'' h1 h2 h3 => ⟨.bl true, H', back H' s' I' s'' h1 h2 h3, rfl, q⟩) (fun H' s' I' q s'' h1 h2 h3 => ⟨.bl false, H', back H' s' I' s'' h1 h2 h3, rfl, q⟩)
      (m0 + 1) _ (.fresh (.compStart (.GeneratorExp elt [⟨tg, iter, [], 0⟩] scope gpos) 0 (.ref it) .none cenv)) hag IG.nolimit hbare (by rw [gsz]; exact Nat.lt_succ_self _) (Array.getElem?_push_size ..) ?_
    refine ⟨rfl, gen_seg0 (og := og) T haf (by rw [← hce]; exact G.co) pg' pe' turn m0 (upd H1 P (.tbl (ps ++ more))) _ _ (inv_quiet IG rfl rfl (allBare_setGen (g := s2.gens.size) (x := .running) (s := { s2 with gens := s2.gens.push (.fresh (.compStart (.GeneratorExp elt [⟨tg, iter, [], 0⟩] scope gpos) 0 (.ref it) .none cenv)), toks := tk + 1 + 1 + 1, heap := h'.push og }) hbare rfl)) ?_ nfp w0⟩
    exact T.keep _ _ _ st2 fun b hb o e => Heap.get?_push_of_some _ (keep' b o e)
  cases hf : codeAmong gpos ps.toList with
  | none =>
    refine wpAny_genexprCodeX hcode (cd.code hPs ht) (cd.tab hPs) hf fun c' h' tk hx hge hlt hco' _ htab' _ => ?_
    obtain ⟨o1, vs, f1, tf, fl, tg, inF, tx, tt, op, _, _, _, _, _, _, _, _, _, htr, _⟩ := hco'
    exact cont _ h' tk _ hx (Nat.le_trans hge (Nat.le_of_lt hlt)) htab'.2 ⟨_, rfl⟩ htr
  | some cv =>
    refine wpAny_genexprCode_hit hcode (cd.code hPs ht) hf ?_
    exact cont cv s2.heap s2.toks ps (Heap.ExtBut.refl _ _) (Nat.le_refl _) hPs ⟨#[], by simp⟩ ht
end MX
end

section
set_option Elab.async false
set_option linter.all false
set_option maxRecDepth 100000
set_option maxHeartbeats 2000000
/-! Sorting where the keys are tuples, void ones among them. -/
namespace MX
open PySem PySem.Spec PySem.Calls PyProof.Rows PySem.W PySem.SeqAt

theorem each_right {α β : Type} {R : α → β → Prop} : ∀ {as : List α} {bs : List β}, EachIs R as bs → ∀ b, b ∈ bs → ∃ a, a ∈ as ∧ R a b
  | _, _, .nil, b, h => absurd h (by simp)
  | _, _, .cons r t, b, h => by
    rcases List.mem_cons.mp h with rfl | h
    · exact ⟨_, List.mem_cons_self .., r⟩
    · obtain ⟨a, ha, q⟩ := each_right t b h
      exact ⟨a, List.mem_cons_of_mem _ ha, q⟩

section
variable {prog : Program} {w : World} {A : Around} {E : Value → Shared → Prop} {s : Shared}

/-- tuple's own __lt__, as sorting calls it -/
theorem call_tup_lt {Q : Value → Shared → Prop} {l b : Addr} {xs ys : Array Value} {e r : Nat → Bool} (hl : s.heap.IsTuple l xs) (hb : s.heap.IsTuple b ys)
    (he : ∀ j (h1 : j < xs.size) (h2 : j < ys.size), EqAt A.in1 s xs[j] ys[j] (e j)) (hr : ∀ j (h1 : j < xs.size) (h2 : j < ys.size), e j = false → RcLt A.in1 s xs[j] ys[j] (r j))
    (h : Q (.bool (firstLt e r (decide (xs.size < ys.size)) (List.range (min xs.size ys.size)))) s) : wpAny (model prog w) A (call (.builtin "tuple.__lt__") [.ref l, .ref b]) Q E s := by
  obtain ⟨⟨k1, d1, da1, s1⟩, o1, c1, n1, e1⟩ := id hl
  obtain ⟨⟨k2, d2, da2, s2⟩, o2, c2, n2, e2⟩ := id hb
  simp only at c1 e1 c2 e2
  subst c1 e1 c2 e2
  exact call_meets F.slot_tuple_lt ⟨_, o1, rfl⟩ F.entry_tuple_lt (F.args_tuple_lt_2 _ _) (tuple_ltAt l b xs ys n1 n2 d1 d2 s1 s2 e r) ⟨o1, o2, he, hr, h⟩

/-- one tuple against another where all keys are tuples -/
theorem oneLt_tup {xs ys : List PyData} {a b : Value} {as bs : List Addr} {Q : Bool → Shared → Prop} (ra : Reads s.heap a (.tuple xs) as) (rb : Reads s.heap b (.tuple ys) bs) (h : alike (.tuple xs) (.tuple ys) = true)
    (hu : A.units + min (PyData.tuple xs).depth (PyData.tuple ys).depth < cLine) (hq : Q (dataLt (.tuple xs) (.tuple ys)) s) : wpAny (model prog w) A (oneLt' true a b) Q E s := by
  have hal : alikeAll xs ys = true := by simpa [alike] using h
  cases ra with
  | @tuple l o vs n _ as1 h1 h2 h3 h4 =>
    cases rb with
    | @tuple l' o' vs' n' _ bs1 k1 k2 k3 k4 =>
      have m1 : vs.size = xs.length := by simpa using SeqAt.ReadsAll.length _ _ _ h4
      have m2 : vs'.size = ys.length := by simpa using SeqAt.ReadsAll.length _ _ _ k4
      rw [dataLt_tuple, ← firstLt_toks xs ys hal, ← m1, ← m2] at hq
      rw [oneLt'_eq]
      simp only [if_true]
      refine wpAny_bind (wpAny_cRoomFor (room_here hu) ?_)
      refine wpAny_bind (wpAny_callSpecialIfBound?_slot (T := "tuple") ⟨_, h1, h2⟩ F.slot_tuple_lt (call_tup_lt (e := pairEq xs ys) (r := fun j => dataLt (xs.getD j .none) (ys.getD j .none)) ⟨_, h1, h2, _, h3⟩ ⟨_, k1, k2, _, k3⟩ (fun j j1 j2 => ?_) (fun j j1 j2 hj => ?_) ?_))
      · have := eqAt_alikeAll xs ys A.in1 s vs.toList vs'.toList _ _ h4 k4 hal (SeqAt.room_in hu) j (by simpa using j1) (by simpa using j2)
        simpa using this
      · have := rcLt_alikeAll xs ys A.in1 s vs.toList vs'.toList _ _ h4 k4 hal (SeqAt.room_in hu) j (by simpa using j1) (by simpa using j2) hj
        simpa using this
      · exact wpAny_truthy_bool hq

theorem mapM_by {α β : Type} {f : α → Sem β} {r : α → β} : ∀ (l : List α) {Q : List β → Shared → Prop}, (∀ v ∈ l, ∀ (Q' : β → Shared → Prop), Q' (r v) s → wpAny (model prog w) A (f v) Q' E s) → Q (l.map r) s → wpAny (model prog w) A (l.mapM f) Q E s
  | [], _, _, h => by
    rw [List.mapM_nil]
    exact wpAny_pure h
  | x :: l, Q, hf, h => by
    rw [List.mapM_cons]
    exact wpAny_bind (hf x (.head _) _ (wpAny_bind (mapM_by l (Q := fun bs s' => wpAny (model prog w) A (pure (r x :: bs)) Q E s') (fun v hv => hf v (.tail _ hv)) (wpAny_pure h))))

/-- the first item of the tuple that v is -/
def firstAt (h : Heap) (v : Value) : Option Value := match v with
  | .ref a => (match h.get? a with
    | some o => (match o.data with
      | .seq xs _ => xs[0]?
      | _ => none)
    | none => none)
  | _ => none

theorem first_tup {v : Value} {xs : List PyData} {as : List Addr} {Q : Option Value → Shared → Prop} (r : Reads s.heap v (.tuple xs) as) (h : Q (firstAt s.heap v) s) : wpAny (model prog w) A (firstOfTuple' v) Q E s := by
  cases r with
  | @tuple l o vs n _ as1 h1 h2 h3 h4 =>
    rw [kas_first_eq]
    refine wpAny_bind (Looks.here (show Looks (model prog w) s.heap (typeOf (.ref l)) o.cls from (Looks.ld h1).andThen .now) ?_)
    rw [h2, if_neg (by first | decide | simp)]
    refine wpAny_bind (listItems_at h1 h3 (wpAny_pure ?_))
    have e : firstAt s.heap (.ref l) = vs[0]? := by
      unfold firstAt
      simp only [h1, h3]
    rw [e] at h
    exact h

theorem first_none {v : Value} {xs : List PyData} {as : List Addr} (r : Reads s.heap v (.tuple xs) as) : (firstAt s.heap v).isSome = !xs.isEmpty := by
  cases r with
  | @tuple l o vs n _ as1 h1 h2 h3 h4 =>
    have e : firstAt s.heap (.ref l) = vs[0]? := by
      unfold firstAt
      simp only [h1, h3]
    have m1 : vs.size = xs.length := by simpa using SeqAt.ReadsAll.length _ _ _ h4
    rw [e]
    cases xs with
    | nil =>
      have : vs.size = 0 := m1
      simp [this]
    | cons x r =>
      have : 0 < vs.size := by rw [m1]; exact Nat.succ_pos _
      simp [this]

/-- the kind of the keys: all are tuples, one is void -/
theorem kind_void2 {vs : List Value} {ds : List PyData} {Q : SortKind → Shared → Prop} (e : EachIs (fun v d => ∃ as, Reads s.heap v d as) vs ds) (h2 : 2 ≤ vs.length) (ht : ∀ d, d ∈ ds → ∃ xs, d = .tuple xs) (hv : PyData.tuple [] ∈ ds)
    (hg : ((vs.map (firstAt s.heap))[0]?.bind id).isSome = true → Q general' s) (ho : ¬ ((vs.map (firstAt s.heap))[0]?.bind id).isSome = true → Q oneType' s) : wpAny (model prog w) A (keyKind' vs.toArray) Q E s := by
  rw [keyKind'_eq, List.mapM_toArray, map_eq_pure_bind]
  have hr : ∀ v, v ∈ vs → ∃ xs as, .tuple xs ∈ ds ∧ Reads s.heap v (.tuple xs) as := fun v hv => by
    obtain ⟨d, hd, as, r⟩ := e.left v hv
    obtain ⟨xs, rfl⟩ := ht d hd
    exact ⟨xs, as, hd, r⟩
  refine wpAny_bind (wpAny_bind (mapM_by (r := firstAt s.heap) _ (fun v hv Q' hq => ?_) (wpAny_pure ?_)))
  · obtain ⟨xs, as, _, r⟩ := hr v hv
    exact first_tup r hq
  · have hnot : ((vs.map (firstAt s.heap)).toArray.all fun x => x.isSome) = false := by
      obtain ⟨u, hu, as, r⟩ := each_right e _ hv
      rw [List.all_toArray, List.all_map, Bool.eq_false_iff]
      intro z
      have := List.all_eq_true.mp z u hu
      simp only [Function.comp] at this
      rw [first_none r] at this
      cases this
    rw [if_neg (by rw [hnot]; exact Bool.false_ne_true)]
    rw [List.getElem?_toArray]
    by_cases hf : ((vs.map (firstAt s.heap))[0]?.bind id).isSome = true
    · rw [if_pos hf]
      exact wpAny_pure (hg hf)
    · rw [if_neg hf]
      rw [oneTypeOnly'_eq, List.mapM_toArray, map_eq_pure_bind]
      refine wpAny_bind (wpAny_bind (wpAny_bind (mapM_by (r := fun _ => Value.type "tuple") _ (fun v hv Q' hq => ?_) (wpAny_pure ?_))))
      · obtain ⟨xs, as, _, r⟩ := hr v hv
        exact (looks_reads r).here hq
      · have hall : ((List.map (fun _ => Value.type "tuple") vs).toArray.all fun x => x == Value.type "tuple") = true := by
          simp only [List.all_toArray, List.all_map, List.all_eq_true]
          intro _ _
          rfl
        have h0 : (List.map (fun _ => Value.type "tuple") vs).toArray[0]? = some (Value.type "tuple") := by
          rw [List.getElem?_toArray, List.getElem?_map]
          have : 0 < vs.length := by omega
          simp [this]
        rw [h0]
        simp only [hall, if_true]
        exact wpAny_pure (wpAny_pure (ho hf))

/-- alike tuples can be sorted, void ones among them -/
theorem sortsTup {vs : List Value} {ds : List PyData} (e : EachIs (fun v d => ∃ as, Reads s.heap v d as) vs ds) (hal : AllAlike ds) (ht : ∀ d, d ∈ ds → ∃ xs, d = .tuple xs) (hu : ∀ d, d ∈ ds → A.units + d.depth < cLine) : SortsAt prog w A s (dataKind s.heap ds) vs := by
  by_cases hv : PyData.tuple [] ∈ ds
  · have room : ∀ {d d' : PyData}, d ∈ ds → A.units + min d.depth d'.depth < cLine := fun {d d'} hd => Nat.lt_of_le_of_lt (Nat.add_le_add_left (Nat.min_le_left _ _) _) (hu d hd)
    have keys : ∀ v, v ∈ vs → ∃ a, (dataKind s.heap ds).keyOf v = some a := fun v hv => by
      obtain ⟨d, hd, as, r⟩ := e.left v hv
      exact ⟨_, dataKind_some hal hd r⟩
    -- which of the two kinds it is, is told by the first key
    have lt : ∀ κ, (κ = general' ∨ κ = oneType') → H.LtAt prog w A s (dataKind s.heap ds) κ := fun κ hκ E x y a b Q ha hb hq => by
      obtain ⟨d, as, hd, ra, rfl⟩ := dataKind_inv ha
      obtain ⟨d', as', hd', rb, rfl⟩ := dataKind_inv hb
      obtain ⟨xs, rfl⟩ := ht d hd
      obtain ⟨ys, rfl⟩ := ht d' hd'
      rcases hκ with rfl | rfl
      · exact oneLt_alike (f := false) (fun z => absurd z Bool.false_ne_true) ra rb (hal _ hd _ hd') (by simp) (room hd) hq
      · rw [keyLt'_oneType]
        exact oneLt_tup ra rb (hal _ hd _ hd') (room hd) hq
    by_cases h2 : 2 ≤ vs.length
    · by_cases hf : ((vs.map (firstAt s.heap))[0]?.bind id).isSome = true
      · refine ⟨keys, general', lt _ (.inl rfl), fun _ E Q hq => ?_⟩
        refine kind_void2 e h2 ht hv (fun _ => hq) fun hn => absurd hf hn
      · refine ⟨keys, oneType', lt _ (.inr rfl), fun _ E Q hq => ?_⟩
        refine kind_void2 e h2 ht hv (fun hp => absurd hp hf) fun _ => hq
    · exact ⟨keys, general', lt _ (.inl rfl), fun h => absurd h h2⟩
  · refine SortsAt.data e hal (.inl fun d hd => ?_) hu
    obtain ⟨xs, rfl⟩ := ht d hd
    cases xs with
    | nil => exact absurd hd hv
    | cons x r => exact ⟨x, r, rfl⟩
end
end MX
end

section
set_option Elab.async false
set_option linter.all false
set_option maxRecDepth 100000
set_option maxHeartbeats 2000000
namespace MX
open PySem PySem.Spec PySem.Calls PyProof.Rows PySem.W PySem.SeqAt L2

/-- sorted(x, ..) by what x hands out and by the sort of that list -/
theorem sorted_gen {prog : Program} {w : World} {A : Around} {E : Value → Shared → Prop} {s : Shared} {x : Value} {kw : List (Str × Value)} {Q : Value → Shared → Prop} (ha1 : argsOk "sorted" ⟨[x], kw⟩) (ha2 : ∀ y, argsOk "list.sort" ⟨[.ref y], kw⟩)
    (hc : wpAny (model prog w) A.in1 (collect x) (fun us s1 => us.length ≤ sizeLine ∧ ∀ E' : Value → Shared → Prop, wpAny (model prog w) A.in1.in1 (Builtin.«list.sort» ⟨[.ref s1.heap.objs.size], kw⟩) (fun f s' => f = .done (.ret .none) ∧ Q (.ref s1.heap.objs.size) s') E'
      { s1 with heap := s1.heap.push (seqObj "list" us.toArray 0) }) E s) :
    wpAny (model prog w) A (call (.builtin "sorted") [x] kw) Q E s := by
  refine call_function_entry_kw kind_sorted plain_sorted entry_sorted ha1 ?_
  unfold Builtin.«sorted»
  refine wpAny_bind (m := checkCount "sorted" 1 1 _) (wpAny_pure ?_)
  refine wpAny_bind (wpAny_mono hc (fun us s1 h1 => ?_) fun _ _ e => e)
  obtain ⟨hL, hs⟩ := h1
  refine wpAny_bind (wpAny_newList ?_ hL)
  refine wpAny_bind (wpAny_holding (wpAny_call_entry_kw slot_list_sort ⟨_, Heap.get?_push_size _ rfl, rfl⟩ entry_list_sort ?body (ha2 _)))
  case body =>
    show wpAny (model prog w) A.in1.in1 (Builtin.«list.sort» ⟨[.ref s1.heap.objs.size], kw⟩) _ _ _
    refine wpAny_mono (hs _) (fun f s' hf => ?_) fun _ _ e => e
    obtain ⟨rfl, hq⟩ := hf
    exact ⟨_, rfl, wpAny_pure ⟨_, rfl, hq⟩⟩

/-- what may be sorted: alike tuples, or alike things that are neither tuples nor None; of no great depth -/
structure SrtOk (ds : List PyData) : Prop where
  al : AllAlike ds
  kd : (∀ d, d ∈ ds → ∃ xs, d = .tuple xs) ∨ ∀ d, d ∈ ds → d ≠ .none ∧ ∀ xs, d ≠ .tuple xs
  dp : ∀ d, d ∈ ds → d.depth ≤ 8
theorem SrtOk.sorts {prog : Program} {w : World} {A : Around} {s : Shared} {vs : List Value} {ds : List PyData} (o : SrtOk ds) (e : EachIs (fun v d => ∃ as, Reads s.heap v d as) vs ds) (hu : A.units + 8 < cLine) : SortsAt prog w A s (dataKind s.heap ds) vs := by
  have hu' : ∀ d, d ∈ ds → A.units + d.depth < cLine := fun d hd => Nat.lt_of_le_of_lt (Nat.add_le_add_left (o.dp d hd) _) hu
  rcases o.kd with h | h
  · exact sortsTup e o.al h hu'
  · exact SortsAt.data e o.al (.inr h) hu'

section
variable {X : Cx} {pins : List (Addr × Obj)} {σ : L2.St} {H : Hp} {s : Shared}
theorem reads_each (I : Inv X pins σ H s) : ∀ {vs : List V} {us : List Value} {ds : List PyData}, Vals vs us → DpAll X.K H vs ds → EachIs (fun u d => ∃ as, Reads s.heap u d as) us ds
  | _, _, _, .nil, .nil => .nil
  | _, _, _, .cons r t, .cons h a => .cons (Dp.reads I _ _ _ h r) (reads_each I t a)
theorem each_keeps {h h' : Heap} (k : ∀ b o, h.get? b = some o → h'.get? b = some o) : ∀ {us : List Value} {ds : List PyData}, EachIs (fun u d => ∃ as, Reads h u d as) us ds → EachIs (fun u d => ∃ as, Reads h' u d as) us ds
  | _, _, .nil => .nil
  | _, _, .cons ⟨as, r⟩ t => .cons ⟨as, PyProof.Rows.Reads.keeps k r⟩ (each_keeps k t)
theorem vals_each : ∀ {vs : List V} {us : List Value} {ds : List PyData}, Vals vs us → vs.length = ds.length → EachIs (fun u (p : V × PyData) => RelV p.1 u) us (vs.zip ds)
  | _, _, [], .nil, _ => .nil
  | _, _, d :: ds, .nil, h => by simp at h
  | _, _, [], .cons _ _, h => by simp at h
  | _, _, d :: ds, .cons r t, h => .cons r (vals_each t (by simpa using h))
theorem each_vals : ∀ {us : List Value} {ps : List (V × PyData)}, EachIs (fun u (p : V × PyData) => RelV p.1 u) us ps → Vals (ps.map (·.1)) us
  | _, _, .nil => .nil
  | _, _, .cons r t => .cons r (each_vals t)
/-- the values sorted by their data -/
def sortV (xs : List V) (ds : List PyData) : List V := ((xs.zip ds).mergeSort (dataLe false (·.2))).map (·.1)
theorem zip_snd {α β : Type} : ∀ (l : List α) (m : List β), l.length = m.length → (l.zip m).map (·.2) = m
  | [], [], _ => rfl
  | [], _ :: _, h => by simp at h
  | _ :: _, [], h => by simp at h
  | a :: l, b :: m, h => by rw [List.zip_cons_cons, List.map_cons, zip_snd l m (by simpa using h)]
theorem sortV_len (xs : List V) (ds : List PyData) (h : xs.length = ds.length) : (sortV xs ds).length = xs.length := by
  unfold sortV
  rw [List.length_map, List.length_mergeSort, List.length_zip, h, Nat.min_self]

theorem zipRead {h : Heap} : ∀ {vs : List V} {us : List Value} {ds : List PyData}, vs.length = ds.length → EachIs (fun u d => ∃ as, Reads h u d as) us ds → EachIs (fun u (p : V × PyData) => ∃ as, Reads h u p.2 as) us (vs.zip ds)
  | [], _, [], _, .nil => .nil
  | [], _, _ :: _, h, _ => by simp at h
  | _ :: _, _, [], h, _ => by simp at h
  | _ :: _, _, _ :: _, h, .cons r t => .cons r (zipRead (by simpa using h) t)
/-- list.sort of a list just made (at the heap's end) of values that read as data -/
theorem sort_plain {vs : List V} {us : List Value} {ds : List PyData} {Q : Value → Shared → Prop} {E : Value → Shared → Prop} (I : Inv X pins σ H s) (r : Vals vs us) (a : DpAll X.K H vs ds) (o : SrtOk ds) (hz : vs.length ≤ sizeLine) (hu : X.A.units + 32 < cLine)
    (h : ∀ s', Inv X pins σ (upd H s.heap.objs.size (.lst (sortV vs ds))) s' → Q (.ref s.heap.objs.size) s') :
    wpAny (model X.prog X.w) X.A.in1.in1 (Builtin.«list.sort» ⟨[.ref s.heap.objs.size], []⟩) (fun f s' => f = .done (.ret .none) ∧ Q (.ref s.heap.objs.size) s') E { s with heap := s.heap.push (seqObj "list" us.toArray 0) } := by
  have hlen : vs.length = ds.length := DpAll.length a
  have eR := reads_each I r a
  have kp1 : ∀ b o, s.heap.get? b = some o → (sortingHeap (s.heap.push (seqObj "list" us.toArray 0)) s.heap.objs.size us).get? b = some o := fun b o e =>
    sortingHeap_old (Nat.ne_of_lt (Heap.lt_size e)) (Heap.get?_push_of_some _ e)
  have ho : (s.heap.push (seqObj "list" us.toArray 0)).get? s.heap.objs.size = some (seqObj "list" us.toArray 0) := Heap.get?_push_size _ rfl
  have S := o.sorts (prog := X.prog) (w := X.w) (A := X.A.in1.in1) (s := { s with heap := sortingHeap (s.heap.push (seqObj "list" us.toArray 0)) s.heap.objs.size us }) (each_keeps kp1 eR) (by show X.A.units + 1 + 1 + 8 < _; omega)
  refine list_sort_vals (s := { s with heap := s.heap.push (seqObj "list" us.toArray 0) }) ho S (by rw [← r.length]; exact hz) ⟨rfl, ?_⟩
  have hs := sortVals_data (h' := sortingHeap (s.heap.push (seqObj "list" us.toArray 0)) s.heap.objs.size us) (R := fun u (p : V × PyData) => RelV p.1 u) (enc := (·.2)) (bs := vs.zip ds) false (vals_each r hlen) ?_ ?_
  · have e2 : (vs.zip ds).map (·.2) = ds := zip_snd vs ds hlen
    rw [e2] at hs
    have hv := each_vals hs
    obtain ⟨c, hc⟩ := sortedHeap_at (vs := us) (out := (sortVals (dataKind (sortingHeap (s.heap.push (seqObj "list" us.toArray 0)) s.heap.objs.size us) ds) false us us).toArray) ho
    have J := I.laid (a := s.heap.objs.size) (o := .lst (sortV vs ds)) (t' := s.toks) (h' := sortedHeap (s.heap.push (seqObj "list" us.toArray 0)) s.heap.objs.size us (sortVals (dataKind (sortingHeap (s.heap.push (seqObj "list" us.toArray 0)) s.heap.objs.size us) ds) false us us).toArray)
      (fun b u e => (sortedHeap_old (Nat.ne_of_lt (Heap.lt_size e)) (Heap.lt_size (Heap.get?_push_of_some _ e))).trans (Heap.get?_push_of_some _ e)) (Nat.le_refl _)
      ⟨by rw [sortV_len vs ds hlen]; exact hz, _, c, hv, hc⟩
    exact h _ J
  · -- each value reads as its datum
    exact zipRead hlen (each_keeps kp1 eR)
  · rw [zip_snd vs ds hlen]
    exact o.al
end
end MX
end

section
set_option Elab.async false
set_option linter.all false
set_option maxRecDepth 100000
set_option maxHeartbeats 2000000
namespace MX
open PySem PySem.Spec PySem.Calls PyProof.Rows PySem.W PySem.SeqAt L2

section
variable {X : Cx} {pins : List (Addr × Obj)} {σ : L2.St} {H : Hp} {s : Shared}
/-- an object that is ours alone, of no frame, no cell, no pin -/
structure Ours (X : Cx) (pins : List (Addr × Obj)) (H : Hp) (b : Addr) : Prop where
  old : X.s_0.heap.objs.size ≤ b
  free : H b = none
  loc : b ≠ X.env.locals
  fs : b ∉ X.fs
  cell : ∀ x c, X.env.cells.lookup x = some c → c ≠ b
  pin : ∀ p ∈ X.pn ++ pins, p.1 ≠ b
theorem Inv.ours (I : Inv X pins σ H s) {b : Addr} (h : s.heap.objs.size ≤ b) : Ours X pins H b where
  old := Nat.le_trans I.sz h
  free := I.hok.fresh h
  loc := Nat.ne_of_gt (Nat.lt_of_lt_of_le I.lt h)
  fs := I.nofs h
  cell := fun x c e z => by
    obtain ⟨v, q⟩ := I.cell x c e
    exact absurd (Nat.lt_of_lt_of_le q.lt (z ▸ h)) (Nat.lt_irrefl _)
  pin := fun p hp z => absurd (Nat.lt_of_lt_of_le (Heap.lt_size (I.pin p hp).1) (z ▸ h)) (Nat.lt_irrefl _)

/-- two objects of ours are pinned -/
theorem Inv.pin2 (I : Inv X pins σ H s) {a b : Addr} {oa ob : Obj} (ha : Ours X pins H a) (hb : Ours X pins H b) (ea : s.heap.get? a = some oa) (eb : s.heap.get? b = some ob) (da : ∀ v, oa.data ≠ .cell v) (db : ∀ v, ob.data ≠ .cell v) :
    Inv X (pins ++ [(a, oa), (b, ob)]) σ H s := by
  refine I.pins_of fun p hp => ?_
  rcases List.mem_append.mp hp with hp | hp
  · exact I.pin p (List.mem_append_right _ hp)
  · rcases List.mem_cons.mp hp with rfl | hp
    · exact ⟨ea, ha.free, ha.loc, ha.fs, da⟩
    · rw [List.mem_singleton.mp hp]
      exact ⟨eb, hb.free, hb.loc, hb.fs, db⟩

/-- behind the work of ours (at a, b): a is tracked from now on -/
theorem Inv.track2 (I : Inv X pins σ H s) {a b : Addr} {o : HO} {h' : Heap} {tk : Nat} (ha : Ours X pins H a) (hb : Ours X pins H b) (keep : ∀ c u, c ≠ a → c ≠ b → s.heap.get? c = some u → h'.get? c = some u)
    (new : ObjOk X.prog X.w (upd H a o) h' a o) : Inv X pins σ (upd H a o) { s with heap := h', toks := tk } := by
  have na : ∀ c u, H c = some u → c ≠ a := fun c u e z => by
    rw [z, ha.free] at e
    cases e
  have nb : ∀ c u, H c = some u → c ≠ b := fun c u e z => by
    rw [z, hb.free] at e
    cases e
  have nc : ∀ c, c ∉ [a, b] → c ≠ a ∧ c ≠ b := fun c h => ⟨fun z => h (by simp [z]), fun z => h (by simp [z])⟩
  refine I.step (g' := s.gens) (d' := s.drawn) (ch := [a, b]) (fun c hc => ?_) (fun c u _ _ hc e _ => keep c u (nc c hc).1 (nc c hc).2 e) (fun c u _ _ hc e _ => ⟨u.slots, keep c u (nc c hc).1 (nc c hc).2 e⟩)
    (fun c u hc e n => by rw [upd_ne (nc c hc).1]; exact n) (fun c u hc e => ⟨u, keep c u (nc c hc).1 (nc c hc).2 e⟩) (fun c xs e => by rw [upd_ne (na c _ e)]; exact e) (fun c u xs e => by rw [upd_ne (na c _ e)]; exact e)
    (fun c ps e => ⟨#[], by rw [upd_ne (na c _ e), e]; simp⟩) (fun m hm => ?_) (fun c u e => ?_) I.bare
  · rcases List.mem_cons.mp hc with rfl | hc
    · exact ⟨.inr ha.old, ha.loc, ha.cell, ha.pin⟩
    · rw [List.mem_singleton.mp hc]
      exact ⟨.inr hb.old, hb.loc, hb.cell, hb.pin⟩
  · obtain ⟨ob, es, ep, ho, r⟩ := hm
    exact ⟨ob, es, ep, keep _ ob ha.loc.symm hb.loc.symm ho, r⟩
  · by_cases hca : c = a
    · rw [hca, upd_same] at e
      cases e
      rw [hca]
      exact new
    · rw [upd_ne hca] at e
      refine (I.hok c u e).stay (fun d v hd q => ?_) (fun d q => by rw [upd_ne (na d _ q)]; exact q) fun d xs q => by rw [upd_ne (na d _ q)]; exact q
      rcases hd with rfl | hd
      · exact keep d v hca (nb d u e) q
      · exact keep d v (na d _ hd) (nb d _ hd) q

/-- a callee from within two built-ins -/
theorem run_fn2 {k : Nat} {f : Addr} {fd : FuncData} {ps : List Str} {sp : Sp} {Q : VK} {us : List Value} {vs : List V} {E : Value → Shared → Prop} (F : FnOk X.prog X.w X.K X.mg X.base CX0 k f fd ps sp) (hr : Room (k + 2) X.A) (hb : Binds X.K fd ps [])
    (I : Inv X pins σ H s) (r : Vals vs us) (h : sp vs H Q E0) : wpAny (model X.prog X.w) X.A.in1.in1 (call (.ref f) us) (EP X pins σ Q) E s := by
  have hl : us.length = ps.length := by rw [← r.length]; exact F.len _ _ _ _ h
  have hb' := hb s us I.kIn (by rw [List.append_nil]; exact hl)
  rw [List.append_nil] at hb'
  refine wpAny_call (codeAny_mono (F.run X.A.in1.in1 X.stack s H ⟨us, []⟩ us vs Q E0 (Room.in1 (Room.in1 hr)) (I.env0.in1.in1) hb' r h) fun r s' hq => ?_)
  cases r with
  | error e => exact False.elim hq
  | ok fl =>
    cases fl with
    | ret u => exact I.after hq
    | next => exact False.elim hq
    | brk => exact False.elim hq
    | cont => exact False.elim hq

/-- list.sort(key=f) of a list just made (at the heap's end): f's answers read as ds -/
theorem sort_keyed {k : Nat} {f : Addr} {fd : FuncData} {ps : List Str} {sp : Sp} {vs : List V} {us : List Value} {ds : List PyData} {Q : Value → Shared → Prop} {E : Value → Shared → Prop} (F : FnOk X.prog X.w X.K X.mg X.base CX0 k f fd ps sp) (hr : Room (k + 2) X.A) (hb : Binds X.K fd ps [])
    (I : Inv X pins σ H s) (r : Vals vs us) (hlen : vs.length = ds.length) (o : SrtOk ds) (hz : vs.length ≤ sizeLine) (hu : X.A.units + 32 < cLine)
    (hsp : ∀ (i : Nat) (x : V) (d : PyData) (H' : Hp) (Q' : VK), vs[i]? = some x → ds[i]? = some d → Kp H H' → (∀ v H'', Kp H' H'' → Dp X.K H'' v d → Q' v H'') → sp [x] H' Q' E0)
    (h : ∀ p H' s', H p = none → Kp H H' → Inv X pins σ (upd H' p (.lst (sortV vs ds))) s' → H' p = none → Q (.ref p) s') :
    wpAny (model X.prog X.w) X.A.in1.in1 (Builtin.«list.sort» ⟨[.ref s.heap.objs.size], [(Str.ofString "key", .ref f)]⟩) (fun g s' => g = .done (.ret .none) ∧ Q (.ref s.heap.objs.size) s') E { s with heap := s.heap.push (seqObj "list" us.toArray 0) } := by
  rw [ksk_t1]
  generalize hav : s.heap.objs.size = a
  have ho : (s.heap.push (seqObj "list" us.toArray 0)).get? a = some (seqObj "list" us.toArray 0) := by rw [← hav]; exact Heap.get?_push_size _ rfl
  have hulen : us.length = vs.length := r.length.symm
  have hZ : us.length ≤ sizeLine := by rw [hulen]; exact hz
  generalize hh1 : (s.heap.push (seqObj "list" us.toArray 0)) = h1 at ho ⊢
  have hsz1 : h1.objs.size = a + 1 := by rw [← hh1, size_push', hav]
  obtain ⟨e1, ho1⟩ : ∃ e1, (h1.update a (Obj.mapSeq fun _ => (#[] : Array Value))).get? a = some (seqObj "list" #[] e1) := ⟨_, get?_update_seq ho fun _ => #[]⟩
  unfold ksk_tree
  refine wpAny_bind (listItems_at ho rfl ?_)
  refine wpAny_bind (listUpdate_at ho rfl ?_ (by rw [List.size_toArray]; exact hZ) (Nat.zero_le _))
  refine wpAny_bind (seqEpoch_at ho1 rfl ?_)
  refine wpAny_bind (wpAny_newTuple ?_ (by show us.length ≤ _; exact hZ))
  refine wpAny_bind (wpAny_newList ?_ (Nat.zero_le _))
  refine wpAny_holding ?_
  generalize hkS : ((h1.update a (Obj.mapSeq fun _ => (#[] : Array Value))).push (seqObj "tuple" us.toArray 0)).objs.size = kS
  have hkS' : kS = a + 2 := by rw [← hkS, size_push', Heap.size_update, hsz1]
  have keep0 : ∀ b u, s.heap.get? b = some u → (((h1.update a (Obj.mapSeq fun _ => (#[] : Array Value))).push (seqObj "tuple" us.toArray 0)).push (seqObj "list" #[] 0)).get? b = some u := fun b u e => by
    have hlt : b < a := by rw [← hav]; exact Heap.lt_size e
    refine Heap.get?_push_of_some _ (Heap.get?_push_of_some _ ?_)
    rw [Heap.get?_update_ne _ _ _ _ (Nat.ne_of_lt hlt), ← hh1]
    exact Heap.get?_push_of_some _ e
  have hka : kS ≠ a := by
    rw [hkS']
    exact Nat.ne_of_gt (Nat.lt_succ_of_lt (Nat.lt_succ_self a))
  have oa : Ours X pins H a := Inv.ours I (Nat.le_of_eq hav)
  have ok : Ours X pins H kS := Inv.ours I (by rw [hav, hkS']; exact Nat.le_succ_of_le (Nat.le_succ a))
  have I2 : Inv X pins σ H { s with heap := ((h1.update a (Obj.mapSeq fun _ => (#[] : Array Value))).push (seqObj "tuple" us.toArray 0)).push (seqObj "list" #[] 0) } := I.kept (t' := s.toks) keep0
  show wpAny (model X.prog X.w) X.A.in1.in1 (ksk_rest a (.ref f) false us.toArray e1 (.ref kS)) _ E { s with heap := ((h1.update a (Obj.mapSeq fun _ => (#[] : Array Value))).push (seqObj "tuple" us.toArray 0)).push (seqObj "list" #[] 0) }
  have J2 := Inv.pin2 I2 (oa := seqObj "list" #[] e1) (ob := seqObj "list" #[] 0) oa ok (Heap.get?_push_of_some _ (Heap.get?_push_of_some _ ho1)) (by rw [← hkS]; exact Heap.get?_push_size _ rfl) (fun v z => by cases z) (fun v z => by cases z)
  generalize ({ s with heap := ((h1.update a (Obj.mapSeq fun _ => (#[] : Array Value))).push (seqObj "tuple" us.toArray 0)).push (seqObj "list" #[] 0) } : Shared) = s2 at J2 ⊢
  clear I2 keep0 ho1
  unfold ksk_rest
  refine wpAny_bind (wpAny_rule ?_)
  first
    | rw [List.forIn_toArray]
    | (rw [← Array.forIn_toList]; simp only [List.toList_toArray])
    | rw [← Array.forIn_toList]
  refine wpAny_bind (ksk_fold (fun i s' => ∃ (H' : Hp) (kA : Array Value) (e : Nat) (kv : List V), Inv X (pins ++ [(a, seqObj "list" #[] e1), (kS, seqObj "list" kA e)]) σ H' s' ∧ Kp H H' ∧ Vals kv kA.toList ∧ DpAll X.K H' kv (ds.take i)) us 0 s2
    ⟨H, #[], 0, [], J2, Kp.refl H, .nil, by rw [List.take_zero]; exact .nil⟩ ?step ?done)
  case step =>
    rintro j u s' hu' ⟨H', kA, e, kv, J, kp, rv, da⟩
    simp only [Nat.zero_add] at da ⊢
    have hj : j < us.length := (List.getElem?_eq_some_iff.mp hu').1
    obtain ⟨d, hd⟩ : ∃ d, ds[j]? = some d := ⟨_, List.getElem?_eq_getElem (by omega)⟩
    obtain ⟨x, hx, rx⟩ : ∃ x, vs[j]? = some x ∧ RelV x u := by
      obtain ⟨x, hx⟩ : ∃ x, vs[j]? = some x := ⟨_, List.getElem?_eq_getElem (by omega)⟩
      obtain ⟨u', h1, h2⟩ := r.get hx
      rw [hu'] at h1
      cases h1
      exact ⟨x, hx, h2⟩
    have hkl : kA.size = j := by
      have h1 : kv.length = kA.size := rv.length
      have h2 := DpAll.length da
      rw [List.length_take] at h2
      omega
    refine wpAny_bind (wpAny_attempt (wpAny_mono (run_fn2 (E := fun _ _ => False) (Q := fun v H'' => Kp H' H'' ∧ Dp X.K H'' v d) F hr hb J (.cons rx .nil) (hsp j x d H' _ hx hd kp fun v H'' k1 k2 => ⟨k1, k2⟩)) (fun v s'' he => ?_) fun _ _ hF => hF.elim))
    obtain ⟨w, H'', J', rw', kp', dw⟩ := he
    try dsimp only
    have pk := J'.pin (kS, seqObj "list" kA e) (List.mem_append_right _ (List.mem_append_right _ (by simp)))
    have pa := J'.pin (a, seqObj "list" #[] e1) (List.mem_append_right _ (List.mem_append_right _ (by simp)))
    have nk2 : s''.heap.get? kS = some (seqObj "list" kA e) := pk.1
    have hs1 := Heap.SameBut.update s''.heap kS (Obj.mapSeq (·.push v))
    obtain ⟨c2, hc2⟩ : ∃ c2, (s''.heap.update kS (Obj.mapSeq (·.push v))).get? kS = some (seqObj "list" (kA.push v) c2) := ⟨_, get?_update_seq nk2 (·.push v)⟩
    refine wpAny_bind (listUpdate_at nk2 rfl ?_ (by rw [hkl]; omega) (by rw [Array.size_push, hkl]; omega))
    have J0 : Inv X (pins ++ [(a, seqObj "list" #[] e1)]) σ H'' s'' := J'.pins_of fun p hp => J'.pin p (List.mem_append_right _ (by
      rcases List.mem_append.mp hp with hp | hp
      · exact List.mem_append_left _ hp
      · rw [List.mem_singleton.mp hp]
        exact List.mem_append_right _ (by simp)))
    have J1 : Inv X (pins ++ [(a, seqObj "list" #[] e1)]) σ H'' { s'' with heap := s''.heap.update kS (Obj.mapSeq (·.push v)) } := J0.turned (it := kS) (t' := s''.toks) (fun b o hb e => (hs1.2 b hb).trans e) pk.2.1 ok.loc (.inr ok.old) ok.cell fun p hp => by
      rcases List.mem_append.mp hp with hp | hp
      · exact ok.pin p (List.mem_append_left _ hp)
      · rcases List.mem_append.mp hp with hp | hp
        · exact ok.pin p (List.mem_append_right _ hp)
        · rw [List.mem_singleton.mp hp]
          exact hka.symm
    have J2' : Inv X (pins ++ [(a, seqObj "list" #[] e1), (kS, seqObj "list" (kA.push v) c2)]) σ H'' { s'' with heap := s''.heap.update kS (Obj.mapSeq (·.push v)) } := J1.pins_of fun p hp => by
      rcases List.mem_append.mp hp with hp | hp
      · exact J1.pin p (List.mem_append_right _ (List.mem_append_left _ hp))
      · rcases List.mem_cons.mp hp with rfl | hp
        · exact J1.pin _ (List.mem_append_right _ (List.mem_append_right _ (by simp)))
        · rw [List.mem_singleton.mp hp]
          exact ⟨hc2, pk.2.1, ok.loc, ok.fs, fun v z => by cases z⟩
    refine wpAny_pure ⟨rfl, H'', kA.push v, c2, kv ++ [w], J2', kp.trans kp', ?_, ?_⟩
    · rw [Array.toList_push]
      exact rv.append (.cons rw' .nil)
    · have ek : ds.take (j + 1) = ds.take j ++ [d] := by rw [List.take_add_one, hd]; simp
      rw [ek]
      exact (kp'.dpAll da).append (.one dw)
  case done =>
    rintro s' ⟨H', kA, e, kv, J, kp, rv, da⟩
    rw [List.take_of_length_le (by omega)] at da
    have pk := J.pin (kS, seqObj "list" kA e) (List.mem_append_right _ (List.mem_append_right _ (by simp)))
    have pa := J.pin (a, seqObj "list" #[] e1) (List.mem_append_right _ (List.mem_append_right _ (by simp)))
    have nk' : s'.heap.get? kS = some (seqObj "list" kA e) := pk.1
    have na' : s'.heap.get? a = some (seqObj "list" #[] e1) := pa.1
    have hk' := reads_each J rv da
    have hkl : kA.size = us.length := by
      have h1 : kv.length = kA.size := rv.length
      have h2 := DpAll.length da
      omega
    try dsimp only
    refine wpAny_bind (listItems_at nk' rfl ?_)
    refine keyH_end (κ := dataKind s'.heap ds) (h₁ := hideAll s'.heap [kS]) (b := false) (fun b u hb q => of_hideAll [kS] q) (hideAll_none [kS] (by simp)) nk' na' hka (o.sorts hk' (by show X.A.units + 1 + 1 + 8 < _; omega)) hkl (by rw [hulen]; exact hz) fun h3 tk3 c k3 n3 => ⟨rfl, ?_⟩
    have hout := keyedOut_each (rev := false) (fun (p : V × PyData) => p.2) (bs := vs.zip ds) (vs := us) (out := sortVals (dataKind s'.heap ds) false kA.toList us) (by rw [zip_snd vs ds hlen]; exact ⟨s'.heap, kA.toList, o.al, rfl, hk'⟩) (vals_each r hlen)
    have hv : Vals (sortV vs ds) (sortVals (dataKind s'.heap ds) false kA.toList us) := each_vals hout
    have J0 : Inv X pins σ H' s' := J.pins_of fun p hp => J.pin p (List.mem_append_right _ (List.mem_append_left _ hp))
    have oa' : Ours X pins H' a := ⟨oa.old, pa.2.1, oa.loc, oa.fs, oa.cell, oa.pin⟩
    have ok' : Ours X pins H' kS := ⟨ok.old, pk.2.1, ok.loc, ok.fs, ok.cell, ok.pin⟩
    have JF := Inv.track2 J0 (o := .lst (sortV vs ds)) (h' := h3) (tk := tk3) oa' ok' (fun b u hba hbk e => k3 b u hba (hideAll_get [kS] e (by simpa using hbk))) ⟨by rw [sortV_len vs ds hlen]; exact hz, _, c, hv, n3⟩
    exact h a H' _ oa.free kp JF pa.2.1
end
end MX
end

section
set_option Elab.async false
set_option linter.all false
set_option maxRecDepth 100000
set_option maxHeartbeats 2000000
/-! what a collecting builtin takes; sorted over it -/
namespace MX
open PySem PySem.Spec PySem.Calls PyProof.Rows PySem.W L2
/-! ### the view of a dict's keys -/
section
variable {prog : Program} {w : World} {A : Around} {E : Value → Shared → Prop} {s : Shared}
theorem meetsKeysT {d : Addr} {es : Array DictEntry} {ep : Nat} (hd : (d == sysModules) = false) :
    MeetsIn prog w (Builtin.«dict.keys» ⟨[.ref d], []⟩) (fun _ R s => DT.Raw s.heap d es ep ∧
      R (.ok (.ret (.ref s.heap.objs.size))) { s with heap := s.heap.push { cls := .type "dict_keys", data := .fields #[.ref d] } }) :=
  .of_wp fun A R s ⟨hm, h⟩ => by
    refine wpAny_bind ?_
    unfold Builtin.Dict.noArgs
    refine wpAny_bind (wpAny_notOrdered_dict hm.typeIs ?_)
    show wpAny _ _ (pure d) _ _ s
    refine wpAny_pure ?_
    show wpAny _ _ (Builtin.Dict.showsAll d >>= _) _ _ s
    unfold Builtin.Dict.showsAll
    rw [if_neg (by rw [hd]; exact Bool.false_ne_true)]
    refine wpAny_bind (wpAny_pure ?_)
    exact wpAny_bind (wpAny_newObj_type (wpAny_pure ⟨_, rfl, h⟩))
end
/-- the view d.keys() -/
def keysO (p d : Addr) : HO := .ext fun h => KdlKeysView h p d
theorem keysO_ok {P : Program} {w : World} {H : Hp} {h : Heap} {p d : Addr} (e : h.get? p = some { cls := .type "dict_keys", data := .fields #[.ref d] }) : ObjOk P w H h p (keysO p d) :=
  ⟨⟨_, e, rfl, rfl⟩, ⟨_, e⟩, fun h1 h2 x k => let ⟨o, ho, r⟩ := x; ⟨o, k o ho, r⟩⟩
section
variable {X : Cx}
def rKeysT : V → List V → Hp → VK → Prop := fun x xs H Q => ∃ (a : Addr) (kvs : List (List L2.Key × V)), x = .ref a ∧ xs = [] ∧ Rd H a (.dT kvs) ∧ ∀ p, H p = none → Q (.ref p) (upd H p (keysO p a))
theorem mt_keysT : MtR X "dict.keys" rKeysT := by
  intro pins s σ H x xs v us Q I rx rxs h
  obtain ⟨a, kvs, rfl, rfl, ha, q⟩ := h
  cases rx
  cases rxs
  obtain ⟨z, hd, xs', rel, o, es, ep, ho, hx, hdat, _⟩ := (show ObjOk X.prog X.w H s.heap a (.dT kvs) from ha.ok I.hok)
  refine call_meetsIn PySem.F.slot_dict_keys ⟨o, ho, hx.1⟩ PySem.F.entry_dict_keys (PySem.F.args_dict_keys_1 _) (meetsKeysT (es := es) (ep := ep) hd) ⟨⟨o, ho, hx, hdat⟩, ?_⟩
  have hf : H s.heap.objs.size = none := I.hok.fresh (Nat.le_refl _)
  exact ⟨.ref s.heap.objs.size, upd H s.heap.objs.size (keysO s.heap.objs.size a), I.laid (t' := s.toks) (fun b u e => Heap.get?_push_of_some _ e) (Nat.le_refl _) (keysO_ok (Heap.get?_push_size _ rfl)), rfl, q _ hf⟩

/-! ### collecting -/
def ClR (X : Cx) (c : V → Hp → (List V → Hp → Prop) → Prop) : Prop :=
  ∀ (pins : List (Addr × Obj)) (s : Shared) (σ : L2.St) (H : Hp) (x : V) (u : Value) (Q : List V → Hp → Prop) (E : Value → Shared → Prop), Inv X pins σ H s → RelV x u → c x H Q →
    wpAny (model X.prog X.w) X.A.in1 (collect u) (fun us s1 => us.length ≤ sizeLine ∧ ∃ vs H1, Inv X pins σ H1 s1 ∧ Vals vs us ∧ Q vs H1) E s
def cSeq (K : PySem.W.Frag) : V → Hp → (List V → Hp → Prop) → Prop := fun x H Q => ∃ a xs, x = .ref a ∧ (SqL K H a xs ∨ SqT K H a xs) ∧ Q xs H
theorem cl_seq : ClR X (cSeq X.K) := by
  intro pins s σ H x u Q E I rx h
  obtain ⟨a, xs, rfl, hs, q⟩ := h
  cases rx
  rcases hs with hs | hs
  · obtain ⟨its, r, ⟨o, n, ho, hc, hdd, hd⟩, hz⟩ := I.list hs
    have hl := r.length
    refine wpAny_collect_seq a (T := "list") (.inl rfl) ho hc hd (fun h' hk => ?_) (by rw [List.size_toArray]; omega)
    rw [List.toList_toArray]
    exact ⟨by omega, xs, H, I.kept (t' := s.toks) hk, r, q⟩
  · obtain ⟨its, r, ⟨o, ho, hc, n, hd⟩, hz⟩ := I.tuple hs
    have hl := r.length
    refine wpAny_collect_seq a (T := "tuple") (.inr rfl) ho hc hd (fun h' hk => ?_) (by rw [List.size_toArray]; omega)
    rw [List.toList_toArray]
    exact ⟨by omega, xs, H, I.kept (t' := s.toks) hk, r, q⟩
def cKeys : V → Hp → (List V → Hp → Prop) → Prop := fun x H Q => ∃ p a kvs, x = .ref p ∧ H p = some (keysO p a) ∧ Rd H a (.dT kvs) ∧ ∀ bs, IsKeys H kvs bs → Q (bs.map V.ref) H
theorem cl_keys (hc : X.calm = true) : ClR X cKeys := by
  intro pins s σ H x u Q E I rx h
  obtain ⟨p, a, kvs, rfl, hp, hd, q⟩ := h
  cases rx
  have view : KdlKeysView s.heap p a := (I.hok p _ hp).1
  obtain ⟨z, hs, ks, pr, o, es, ep, ho, hx, hdt, he, hn⟩ := (show ObjOk X.prog X.w H s.heap a (.dT kvs) from hd.ok I.hok)
  have l1 : es.size = ks.length := size_of_entries he
  have l2 : kvs.length = ks.length := Paired.length pr
  refine kdu_collect (KdlSrc.rawKeys (r := p) (d := a) (es := es) (ep := ep)) (show X.A.in1.handled = none from I.ok.hd hc) ⟨view, o, ho, hx, hdt⟩ (by omega) fun h' tk acc' kp it => ?_
  have ea : acc'.toList = ks.map fun x => Value.ref x.2.1 := by
    have hl : acc'.toList.length = ks.length := by rw [Array.length_toList, it.1]; exact l1
    apply List.ext_getElem?
    intro j
    rw [List.getElem?_map]
    cases hj : acc'.toList[j]? with
    | none =>
      have h1 := List.getElem?_eq_none_iff.mp hj
      rw [List.getElem?_eq_none (by omega)]
      all_goals rfl
    | some v =>
      obtain ⟨hi, hv⟩ := it.2 j v (by rw [← Array.getElem?_toList]; exact hj)
      have qe := entry_at he j
      rw [Array.getElem?_eq_getElem hi] at qe
      cases hb : ks[j]? with
      | none =>
        rw [hb] at qe
        exact nomatch (show some es[j] = none from qe)
      | some b =>
        rw [hb] at qe
        have e2 : es[j] = entryOfKey (tupleKind (mixKind X.prog X.w)) b := Option.some.inj qe
        rw [hv, e2]
        all_goals rfl
  have eb : acc'.toList = (ks.map fun x => x.2.1).map Value.ref := by rw [ea, List.map_map]; all_goals rfl
  refine ⟨by rw [ea, List.length_map]; omega, (ks.map fun x => x.2.1).map V.ref, H, I.kept (t' := tk) kp, by rw [eb]; exact vals_refs _, q _ (isKeys_of pr)⟩
def cRng : V → Hp → (List V → Hp → Prop) → Prop := fun x H Q => ∃ p a b, x = .ref p ∧ H p = some (.rng a b) ∧ RgOk a b ∧ Q (rgV a b) H
theorem cl_rng (hc : X.calm = true) : ClR X cRng := by
  intro pins s σ H x u Q E I rx h
  obtain ⟨p, a, b, rfl, hp, ⟨b1, b2, b3, b4, b5⟩, q⟩ := h
  cases rx
  obtain ⟨t, t2, t3, e⟩ := (show ObjOk X.prog X.w H s.heap p (.rng a b) from I.hok p _ hp)
  refine collect_range (n := (b - a).toNat) (show X.A.in1.handled = none from I.ok.hd hc) e (small_one b1 b2 b3 b4) (rangeSize_nat a b) b5 fun h' tk acc hk hi => ?_
  exact ⟨by rw [Array.length_toList, hi.1, sizeLine_eq]; omega, rgV a b, H, I.kept (t' := tk) hk, vals_rg hi, q⟩
/-- range(n) as a value -/
theorem cr_range1 : CallR X (.type "range") (fun vs H Q => ∃ n, vs = [V.int n] ∧ ∀ p, H p = none → Q (.ref p) (upd H p (.rng 0 n))) := by
  intro pins s σ H vs us Q I r h
  obtain ⟨n, rfl, q⟩ := h
  obtain ⟨u, rfl, rx⟩ := r.one
  obtain ⟨t, rfl⟩ := rx
  exact call_range_1 ⟨.ref s.heap.objs.size, upd H s.heap.objs.size (.rng 0 n), I.laid (t' := s.toks + 1 + 1) (fun b o e => Heap.get?_push_of_some _ e) (Nat.le_refl _) (show ObjOk X.prog X.w _ _ _ (.rng 0 n) from ⟨_, _, _, Heap.get?_push_size _ rfl⟩), rfl, q _ (I.hok.fresh (Nat.le_refl _))⟩

/-! ### sorted -/
variable {c : V → Hp → (List V → Hp → Prop) → Prop}
def rSortC (K : PySem.W.Frag) (c : V → Hp → (List V → Hp → Prop) → Prop) : List V → Hp → VK → Prop := fun vs H Q => ∃ x, vs = [x] ∧ c x H fun xs H1 => ∃ ds, DpAll K H1 xs ds ∧ SrtOk ds ∧ ∀ p, H1 p = none → Q (.ref p) (upd H1 p (.lst (sortV xs ds)))
theorem cr_sortC (hc : ClR X c) (hu : X.A.units + 32 < cLine) : CallR X (.builtin "sorted") (rSortC X.K c) := by
  intro pins s σ H vs us Q I r h
  obtain ⟨x, rfl, h⟩ := h
  obtain ⟨u, rfl, rx⟩ := r.one
  refine sorted_gen (args_sorted1 _) (fun y => args_list_sort _) (thn (hc pins s σ H x u _ _ I rx h) fun us s1 h1 => ?_)
  obtain ⟨hL, xs, H1, I1, rv, ds, a, o, q⟩ := h1
  refine ⟨hL, fun E' => sort_plain I1 rv a o (by rw [rv.length]; exact hL) hu fun s' I' => (show EP X pins σ Q (.ref s1.heap.objs.size) s' from ⟨.ref s1.heap.objs.size, _, I', rfl, q _ (I1.hok.fresh (Nat.le_refl _))⟩)⟩
def rSortK (K : PySem.W.Frag) (f : Addr) (sp : Sp) (c : V → Hp → (List V → Hp → Prop) → Prop) : List V → List V → Hp → VK → Prop := fun vs zs H Q => ∃ x, vs = [x] ∧ zs = [.ref f] ∧ c x H fun xs H1 => ∃ ds, xs.length = ds.length ∧ SrtOk ds ∧
  (∀ (i : Nat) (x : V) (d : PyData) (H' : Hp) (Q' : VK), xs[i]? = some x → ds[i]? = some d → Kp H1 H' → (∀ v H'', Kp H' H'' → Dp K H'' v d → Q' v H'') → sp [x] H' Q' E0) ∧
  ∀ p H', H1 p = none → Kp H1 H' → H' p = none → Q (.ref p) (upd H' p (.lst (sortV xs ds)))
theorem cr_sortK {k : Nat} {f : Addr} {fd : FuncData} {ps : List Str} {sp : Sp} (F : FnOk X.prog X.w X.K X.mg X.base CX0 k f fd ps sp) (hr : Room (k + 2) X.A) (hb : Binds X.K fd ps []) (hc : ClR X c) (hu : X.A.units + 32 < cLine) :
    CallRK X (.builtin "sorted") [Str.ofString "key"] (rSortK X.K f sp c) := by
  intro pins s σ H xs zs us ws Q I rx rz h
  obtain ⟨x, rfl, rfl, h⟩ := h
  obtain ⟨u, rfl, rx2⟩ := rx.one
  obtain ⟨z, rfl, rz2⟩ := rz.one
  obtain rfl : z = Value.ref f := rz2
  show wpAny _ _ (call (.builtin "sorted") [u] [(Str.ofString "key", .ref f)]) _ _ _
  refine sorted_gen (ksk_s1 _ _) (fun y => ksk_l1 _ _) (thn (hc pins s σ H x u _ _ I rx2 h) fun us s1 h1 => ?_)
  obtain ⟨hL, xs, H1, I1, rv, ds, hl, o, hs, q⟩ := h1
  refine ⟨hL, fun E' => ?_⟩
  refine sort_keyed F hr hb I1 rv hl o (by rw [rv.length]; exact hL) hu hs fun p H' s' h1 kp J h2 => (show EP X pins σ Q (.ref p) s' from ⟨.ref p, _, J, rfl, q p H' h1 kp h2⟩)
end
end MX
end

section
set_option Elab.async false
set_option linter.all false
set_option maxRecDepth 100000
set_option maxHeartbeats 2000000
/-! dicts whose keys are tuples: comprehensions, a display of one pair, dict(pairs), their keys walked (the comprehension's walk follows HandS.DictComp's) -/
namespace L2
open PySem PySem.Spec PyProof.Rows
theorem d_dictSetT {X : Cx} {pins : List (Addr × Obj)} {σ : St} {H : Hp} {s : Shared} {E : Value → Shared → Prop} {D b : Addr} {kvs : List (List Key × V)} {k : List Key} {v : V} {r : Value} {Q : Unit → Shared → Prop} (hu : X.A.units < cLine) (I : Inv X pins σ H s) (e : H D = some (.dT kvs)) (eb : H b = some (.tup (k.map kV))) (l : kvs.length < sizeLine)
    (rv : RelV v r) (h : ∀ s', Inv X pins σ (upd H D (.dT (putK kvs k v))) s' → Q () s') : wpAny (model X.prog X.w) X.A (dictSet D (.ref b) r) Q E s := by
  obtain ⟨z, hd, xs, rel, dd⟩ := dt_of I.hok e
  have hz : xs.length ≤ sizeLine := by rw [← Paired.length rel]; exact z
  have hl : (putK kvs k v).length ≤ sizeLine := by have := length_putK kvs k v; omega
  refine wpAny_dictSet_heap (hsz := hz) hu (key_of I.hok eb) dd fun h' dd' hs => h _ ?_
  obtain ⟨q, es, ep, hq, h2, h3, h4, _, h5⟩ := dd'
  refine d_write I (by rw [e]; exact True.intro) hs ⟨q, hq⟩ ⟨hl, hd, _, (rel.put k eb rv).keeps fun c ys ec => ?_, q, es, ep, hq, h2, h3, h4, h5⟩
  rw [upd_ne (ne_of ec e (fun z => nomatch z))]
  exact ec
section
variable {X : Cx}
/-- {k: v for target in iter if ..}, keys tuples: D the new dict -/
def tDcT (wi : TI) (g : TG) (tt : TT) (tk tv : TE) (vs : List Nat) : TE := fun σ H Q => wi σ H fun J H1 => ∀ D, H1 D = none → ∃ W : Nat → Nat → Hp → Prop, (∃ m, W 0 m (upd H1 D (.dT []))) ∧ ∀ i m H, W i m H →
  (J.stop i H ∧ Q (.ref D) H) ∨ (J.go i H ∧ ∃ Nx : Hp → Prop, (∀ G, Nx G → ∃ u, u < m ∧ W (i + 1) u G) ∧ ∀ x H', J.yld i H x H' → g x (wipe σ vs) H' fun σ2 H2 => wipe σ2 vs = wipe σ vs ∧ tt σ2 H2 fun b H3 =>
    if b = true then tk σ2 H3 fun y H4 => tv σ2 H4 fun z H5 => ∃ kvs k kb, y = .ref kb ∧ H5 kb = some (.tup (k.map kV)) ∧ H5 D = some (.dT kvs) ∧ kvs.length < sizeLine ∧ Nx (upd H5 D (.dT (putK kvs k z))) else Nx H3)
/-- one turn's outcome, told to the loop: what the turn's own frame has done is forgotten, the walked thing stands one further -/
theorem turn_back {X0 : Cx} {fp : List Addr} {W : Nat → Nat → Hp → Prop} {tn : Nat → Heap → Prop} {tg : Expr} {J : It} {it : Addr} (T : Turn X0.prog X0.w X0.K tg J fp it tn) {i n : Nat} {σ σ8 : St} {vs : List Nat} (hw : wipe σ8 vs = wipe σ vs) {g : Heap} (st : tn (i + 1) g)
    {H' : Hp} {s' : Shared} (I : Inv X0 ([] ++ pinsAt fp g) σ8 H' s') {m : Nat} (lt : m < n) (w : W (i + 1) m H') :
    ∃ m, m < n ∧ ∃ i H', Inv X0 [] (wipe σ vs) H' s' ∧ tn i s'.heap ∧ (∀ b ∈ fp, H' b = none) ∧ W i m H' := by
  have at8 : ∀ b, b ∈ fp → ∀ ob, g.get? b = some ob → s'.heap.get? b = some ob ∧ H' b = none := by
    intro b hb ob eb
    have q := I.pin (b, ob) (List.mem_append_right _ (List.mem_append_right _ (mem_pinsAt hb eb)))
    exact And.intro q.1 q.2.1
  have len8 : (wipe σ vs).length = σ8.length := by rw [← hw]; exact wipe_length σ8 vs
  have inv8 : Inv X0 [] (wipe σ vs) H' s' := by
    refine Inv.weak (Inv.unpinned (pins := []) I) len8 ?_
    intro j v ej
    exact (wipe_some (show (wipe σ8 vs)[j]? = some (some v) by rw [hw]; exact ej)).1
  refine ⟨m, lt, i + 1, H', inv8, T.keep (i + 1) g s'.heap st (fun b hb ob eb => (at8 b hb ob eb).1), ?_, w⟩
  intro b hb
  have q := T.obj (i + 1) g st b hb
  exact (at8 b hb q.choose q.choose_spec.1).2
/-- the comprehension's frame stands: the walked thing's records belong to it -/
theorem blk_own {X0 : Cx} {fp : List Addr} (hex : ∀ b, b ∈ fp → b ∈ X0.ex) (hpn : X0.pn = []) {σ : St} {H : Hp} {s : Shared} (I : Inv X0 [] σ H s) (free : ∀ b ∈ fp, H b = none) : ∀ b ∈ fp, FpOk X0 [] H b := by
  intro b hb
  have e1 := I.ok.exf b (hex b hb)
  refine ⟨free b hb, e1.1, I.ok.exfs b (hex b hb), Or.inl (hex b hb), fun y c ey => e1.2 y c ey, fun p hp => ?_⟩
  rw [hpn] at hp
  cases hp
variable {kx vx tg iter : Expr} {ifs : List Expr} {scope : Scope} {pos : Pos} {wi : TI} {g : TG} {tt : TT} {tk tv : TE} {J : It} {it D : Addr} {fp : List Addr} {tn : Nat → Heap → Prop} {W : Nat → Nat → Hp → Prop} {Qd : Hp → Prop} {vs : List Nat} {σ : St}
/-- the turns of such a comprehension, in a def's or a comprehension's frame X0 -/
theorem dcT_loop {X0 : Cx} (hu : X0.A.units < cLine) (hc : X0.calm = true) (hpn : X0.pn = []) (hex : ∀ b, b ∈ fp → b ∈ X0.ex) (T : Turn X0.prog X0.w X0.K tg J fp it tn) (pg : PG X0 tg g) (pt : PTs X0 ifs tt) (pk : PE X0 kx tk) (pv : PE X0 vx tv)
    (turn : ∀ i m H, W i m H → (J.stop i H ∧ Qd H) ∨ (J.go i H ∧ ∃ Nx : Hp → Prop, (∀ G, Nx G → ∃ u, u < m ∧ W (i + 1) u G) ∧ ∀ x H1, J.yld i H x H1 → g x (wipe σ vs) H1 fun σ2 H2 => wipe σ2 vs = wipe σ vs ∧ tt σ2 H2 fun b H3 =>
      if b = true then tk σ2 H3 fun y H4 => tv σ2 H4 fun z H5 => ∃ kvs k kb, y = .ref kb ∧ H5 kb = some (.tup (k.map kV)) ∧ H5 D = some (.dT kvs) ∧ kvs.length < sizeLine ∧ Nx (upd H5 D (.dT (putK kvs k z))) else Nx H3))
    (hX : X0.xe = fun _ _ => False) {R : Result → Shared → Prop} (hR : ∀ H' s', Inv X0 [] (wipe σ vs) H' s' → (∀ b ∈ fp, H' b = none) → Qd H' → R (.ok .next) s') :
    ∀ (m0 : Nat) (H0 : Hp) (s0 : Shared), Inv X0 [] (wipe σ vs) H0 s0 → tn 0 s0.heap → (∀ b ∈ fp, H0 b = none) → W 0 m0 H0 →
      codeAny (model X0.prog X0.w) X0.A (.compLoop (.DictComp kx vx [⟨tg, iter, ifs, 0⟩] scope pos) 0 (.ref it) (.ref D) X0.env) R s0 := by
  intro m0 H0 s0 I0 t0 n0 w0
  have lift : ∀ {α : Type} {t : Sem α} {Q1 Q2 : α → Shared → Prop} {E2 : Value → Shared → Prop} {s : Shared}, wpAny (model X0.prog X0.w) X0.A t Q1 X0.xe s → (∀ a s', Q1 a s' → Q2 a s') → wpAny (model X0.prog X0.w) X0.A t Q2 E2 s := by
    intro α t Q1 Q2 E2 s h1 h2
    rw [hX] at h1
    exact wpAny_mono h1 h2 fun _ _ z => z.elim
  refine compLoop_anyD (D := D) (fun n s' => ∃ i H', Inv X0 [] (wipe σ vs) H' s' ∧ tn i s'.heap ∧ (∀ b ∈ fp, H' b = none) ∧ W i n H') ?step m0 ⟨0, H0, I0, t0, n0, w0⟩
  intro n s1 hyp
  obtain ⟨i, H1, I1, t1, n1, w1⟩ := hyp
  have own1 := blk_own hex hpn I1 n1
  rcases turn i n H1 w1 with hstop | hgo
  · refine wpAny_mono (T.done X0 rfl rfl rfl hc i [] s1 _ H1 (fun _ _ => False) I1 own1 t1 hstop.1) ?_ fun _ _ z => z.elim
    rintro r s2 ⟨rfl, I2⟩
    exact hR H1 s2 I2 n1 hstop.2
  · obtain ⟨go, Nx, less, step⟩ := hgo
    refine wpAny_mono (T.item X0 rfl rfl rfl hc i [] s1 _ H1 (fun _ _ => False) I1 own1 t1 go) ?_ fun _ _ z => z.elim
    rintro r s2 ⟨u, rfl, h2⟩
    refine wpAny_mono h2 ?_ fun _ _ z => z.elim
    rintro _ s3 ⟨x, H3, I3, rx, y3, t3, n3⟩
    have I3' := Inv.pinned I3 (blk_own hex hpn I3 n3) (T.obj _ _ t3)
    refine lift (pg.run _ s3 _ H3 x u _ I3' rx (step x H3 y3)) ?_
    rintro _ s4 ⟨σ4, H4, I4, hw, h4⟩
    refine lift (pt.run _ s4 σ4 H4 _ I4 h4) ?_
    rintro b s5 ⟨H5, I5, h5⟩
    cases hb : b with
    | false =>
      rw [hb, if_neg Bool.false_ne_true] at h5
      rw [if_neg Bool.false_ne_true]
      obtain ⟨m, lt, wm⟩ := less H5 h5
      exact turn_back T hw t3 I5 lt wm
    | true =>
      rw [hb, if_pos rfl] at h5
      rw [if_pos rfl]
      refine lift (pk.run _ s5 σ4 H5 _ I5 h5) ?_
      rintro kval s6 ⟨y, H6, I6, ry, h6⟩
      refine lift (pv.run _ s6 σ4 H6 _ I6 h6) ?_
      rintro vval s7 ⟨z, H7, I7, rz, kvs, k, kb, rfl, hkb, hD, hz, h7⟩
      obtain rfl : kval = Value.ref kb := ry
      refine d_dictSetT hu I7 hD hkb hz rz fun s8 I8 => ?_
      obtain ⟨m, lt, wm⟩ := less _ h7
      exact turn_back T hw t3 I8 lt wm
/-- the comprehension's own frame, laid behind what is walked; its work; and back -/
theorem pe_dcT {X : Cx} {own : List (Str × Nat)} (hu : X.A.units < cLine) (hc : X.calm = true) (hN : X.N.Nodup) (hi : PI X tg iter wi) (ok : BlkOk X.N X.env.scope scope own)
    (hg : ∀ s H C cl fp, PG (X.blk s H scope (compEnvC scope cl C X.env) fp) tg g) (ht : ∀ s H C cl fp, PTs (X.blk s H scope (compEnvC scope cl C X.env) fp) ifs tt)
    (hk : ∀ s H C cl fp, PE (X.blk s H scope (compEnvC scope cl C X.env) fp) kx tk) (he : ∀ s H C cl fp, PE (X.blk s H scope (compEnvC scope cl C X.env) fp) vx tv) (hs : ∀ x, foldedSetIterable iter X.env x = pure x := by intro _; rfl) :
    PE X (.DictComp kx vx [⟨tg, iter, ifs, 0⟩] scope pos) (tDcT wi g tt tk tv (own.map (·.2))) := by
  refine ⟨?_⟩
  intro pins s σ H Q I h
  rw [arm_eval_DictComp]
  have cellOf : ∀ y ∈ scope.names, y.2 = .free → ∃ c, X.env.cells.lookup y.1 = some c := by
    intro y hy ey
    exact I.ok.has _ (ok.free y hy ey)
  refine wpAny_comprehension_free rfl hs (closure_ok cellOf) ok.kind (fun y hy ey => (ok.uniq y hy).trans (congrArg some ey)) ?_
  refine thn (hi.run pins s σ H _ I h) fun xv s1 h1 => thn h1 ?_
  rintro _ s2 ⟨it, fp, tn, J, H2, rfl, I2, T, t2, f2, q⟩
  refine wpAny_newObj_type (newEnv_comp ?_)
  have fresh : H2 s2.heap.objs.size = none := I2.hok.fresh (Nat.le_refl _)
  obtain ⟨W, ⟨m0, w0⟩, turn⟩ := q s2.heap.objs.size fresh
  have old : ∀ b ∈ fp, b < s2.heap.objs.size := by
    intro b hb
    have q := T.obj 0 _ t2 b hb
    exact Heap.lt_size q.choose_spec.1
  -- the void dict
  have I3 : Inv X pins σ (upd H2 s2.heap.objs.size (.dT [])) { s2 with heap := s2.heap.push { cls := .type "dict", data := .dict #[] } } :=
    I2.laid (t' := s2.toks) (fun b o eb => Heap.get?_push_of_some _ eb) (Nat.le_refl _) (dt_empty s2.heap I2.big)
  have f3 : ∀ b ∈ fp, FpOk X pins (upd H2 s2.heap.objs.size (.dT [])) b ∧ b < (s2.heap.push { cls := .type "dict", data := .dict #[] }).objs.size := by
    intro b hb
    have l := old b hb
    refine And.intro ⟨(upd_ne (Nat.ne_of_lt l)).trans (f2 b hb).1, (f2 b hb).2⟩ ?_
    rw [Heap.size_push]
    exact Nat.lt_succ_of_lt l
  have t3 : tn 0 (s2.heap.push { cls := .type "dict", data := .dict #[] }) := T.keep _ _ _ t2 fun b _ o eb => Heap.get?_push_of_some _ eb
  have I4 := block_start I3 ok hN f3
  refine (fun loop => codeAny_compStart_dict loop (T.self X.A 0 _ _ _ (T.keep _ _ _ t3 fun b _ o eb => pushCells_keeps _ _ _ _ (Heap.get?_push_of_some _ eb)) loop)) ?_
  focus
    refine dcT_loop (X0 := X.blk _ _ scope (compEnvC scope _ _ X.env) fp) (g := g) (tt := tt) (tk := tk) (tv := tv) (Qd := Q (.ref s2.heap.objs.size)) hu hc rfl (fun b hb => hb) T (hg _ _ _ _ _) (ht _ _ _ _ _) (hk _ _ _ _ _) (he _ _ _ _ _) turn rfl ?_ m0 _ _ I4 (T.keep _ _ _ t3 fun b _ o eb => pushCells_keeps _ _ _ _ (Heap.get?_push_of_some _ eb)) (fun b hb => (f3 b hb).1.1) w0
    intro H5 s5 I5 n5 q5
    have I6 : Inv X pins σ H5 s5 := Inv.call' (ch := fp) I3 I5.os I5.base I5.hok I5.bare fun b hb => ⟨(f3 b hb).1.2.2.2.1, (f3 b hb).1.2.1, (f3 b hb).1.2.2.2.2.1, (f3 b hb).1.2.2.2.2.2⟩
    have free5 := I5.free
    obtain ⟨m, ns5, _⟩ := I5.loc
    refine ⟨m, ns5, fun h6 sb => ?_⟩
    have f6 := Inv.fpOk I3 (Nat.le_refl _) free5
    refine ⟨.ref s2.heap.objs.size, H5, Inv.turned I6 (t' := s5.toks) (fun b o hb eb => (sb.2 b hb).trans eb) f6.1 f6.2.1 f6.2.2.2.1 f6.2.2.2.2.1 f6.2.2.2.2.2, rfl, q5⟩
end
end L2
namespace MX
open PySem PySem.Spec PySem.Calls PyProof.Rows PySem.W L2
section
variable {X : Cx}
/-- {k: v}, k a tuple -/
def tDisp1T (tk tv : TE) : TE := fun σ H Q => ∀ p, H p = none → tk σ (upd H p (.dT [])) fun x H1 => tv σ H1 fun y H2 => H2 p = some (.dT []) ∧ ∃ (k : List Key) (b : Addr), x = .ref b ∧ H2 b = some (.tup (k.map kV)) ∧ Q (.ref p) (upd H2 p (.dT [(k, y)]))
theorem pe_disp1T {k v : Expr} {tk tv : TE} {pos : Pos} (hu : X.A.units < cLine) (hk : PE X k tk) (hv : PE X v tv) : PE X (.Dict [some k] [v] pos) (tDisp1T tk tv) := by
  refine ⟨fun pins s σ H Q I q => ?_⟩
  have hn := I.hok.fresh (Nat.le_refl s.heap.objs.size)
  have I1 := I.laid (a := s.heap.objs.size) (o := .dT []) (h' := s.heap.push { cls := .type "dict", data := .dict #[] }) (t' := s.toks) (fun _ _ q => Heap.get?_push_of_some _ q) (Nat.le_refl _) (dt_empty s.heap I.big)
  rw [arm_eval_Dict, zip_pairTrees [some k] [v] X.env pos rfl rfl, dictDisplay_pairs (pairTrees [some k] [v] X.env pos) (by intro z; cases z) (by show 1 < 17; decide)]
  refine wpAny_bind (wpAny_standAt (wpAny_bind (wpAny_subDictH (knd := tupleKind (mixKind X.prog X.w)) (Q := fun d s' => wpAny (model X.prog X.w) X.A (pure (Value.ref d)) (EP X pins σ Q) X.xe s') hu (by show 1 ≤ 15; decide) ?_)))
  refine pairTrees_cons_walk (thn (hk.run pins _ σ _ _ I1 (q _ hn)) fun u s1 ⟨x, H1, I2, rx, q1⟩ => thn (hv.run pins s1 σ H1 _ I2 q1) fun w2 s2 ⟨y, H2, I3, ry, e, kk, b, ex, hb, q2⟩ => ?_)
  subst ex
  obtain rfl : u = Value.ref b := rx
  refine pairTrees_nil_walk ?_
  obtain ⟨z, hd, vs0, r0, dd⟩ := dt_of I3.hok e
  cases r0
  refine ⟨[(kk, b, w2)], ⟨rfl, rfl, key_of I3.hok hb, True.intro⟩, dd, fun h' tk dd' hs => wpAny_pure ⟨.ref s.heap.objs.size, _, ?_, rfl, q2⟩⟩
  obtain ⟨o, es, ep, hq, h2, h3, h4, _, h5⟩ := dd'
  refine d_write I3 (by rw [e]; exact True.intro) hs ⟨o, hq⟩ ⟨by rw [sizeLine_eq]; show 1 ≤ _; decide, hd, _, ?_, o, es, ep, hq, h2, h3, h4, h5⟩
  refine .cons ⟨rfl, ?_, ry⟩ .nil
  rw [upd_ne (ne_of hb e (fun z => nomatch z))]
  exact hb

/-! ### dict(xs), xs a list of pairs (tuple, value), the keys all different -/
theorem pairs_stored : ∀ {ps acc : List (List Key × Addr × Value)}, ((acc ++ ps).map (·.1)).Nodup → storedAllH acc ps = acc ++ ps
  | [], acc, _ => by rw [List.append_nil]; rfl
  | p :: ps, acc, h => by
    have hn : atKey acc p.1 = none := by
      cases e : atKey acc p.1 with
      | none => rfl
      | some q =>
        exfalso
        have h1 : p.1 ∈ acc.map (·.1) := by
          unfold atKey at e
          obtain ⟨x, hx, _⟩ := Option.map_eq_some_iff.mp e
          have := List.find?_some hx
          exact List.mem_map.mpr ⟨x, List.mem_of_find?_eq_some hx, by simpa using this⟩
        rw [List.map_append, List.nodup_append] at h
        exact h.2.2 _ h1 _ (by simp) rfl
    have e1 : storedH acc p.1 p.2.1 p.2.2 = acc ++ [p] := by
      unfold storedH
      rw [if_neg (by rw [hn]; exact Bool.false_ne_true)] <;> rfl
    show storedAllH (storedH acc p.1 p.2.1 p.2.2) ps = _
    rw [e1, pairs_stored (by simpa [List.append_assoc] using h), List.append_assoc]
    rfl
def rDictT (K : PySem.W.Frag) : List V → Hp → VK → Prop := fun xs H Q => ∃ (a : Addr) (ps : List Addr) (kvs : List (List Key × V)) (ks : List Addr), xs = [.ref a] ∧ SqL K H a (ps.map V.ref) ∧ ps.length = kvs.length ∧ ks.length = kvs.length ∧ (kvs.map (·.1)).Nodup ∧
  (∀ (i : Nat) (p b : Addr) (kv : List Key × V), ps[i]? = some p → ks[i]? = some b → kvs[i]? = some kv → H p = some (.tup [.ref b, kv.2]) ∧ H b = some (.tup (kv.1.map kV))) ∧
  ∀ p, H p = none → Q (.ref p) (upd H p (.dT kvs))
theorem refs_at2 : ∀ {ps : List Addr} {us : List Value}, Vals (ps.map V.ref) us → us = ps.map Value.ref
  | [], _, r => by cases r; rfl
  | p :: ps, _, r => by
    cases r with
    | cons h t =>
      cases h
      rw [List.map_cons, ← refs_at2 t]
theorem pairs_get {H : Hp} {h : Heap} {P : Program} {w : World} (ok : HOk P w H h) : ∀ (ps ks : List Addr) (kvs : List (List Key × V)), ps.length = kvs.length → ks.length = kvs.length →
    (∀ (i : Nat) (p b : Addr) (kv : List Key × V), ps[i]? = some p → ks[i]? = some b → kvs[i]? = some kv → H p = some (.tup [.ref b, kv.2]) ∧ H b = some (.tup (kv.1.map kV))) →
    ∃ xs : List (List Key × Addr × Value), KT H kvs xs ∧ xs.map (·.2.1) = ks ∧ ∀ (i : Nat) (x : List Key × Addr × Value) (p : Addr), xs[i]? = some x → ps[i]? = some p → IsTup h p #[.ref x.2.1, x.2.2]
  | [], [], [], _, _, _ => ⟨[], .nil, rfl, fun i x p e => by simp at e⟩
  | [], [], _ :: _, h, _, _ => by simp at h
  | [], _ :: _, [], _, h, _ => by simp at h
  | [], _ :: _, _ :: _, h, _, _ => by simp at h
  | _ :: _, _, [], h, _, _ => by simp at h
  | _ :: _, [], _ :: _, _, h, _ => by simp at h
  | p :: ps, b :: ks, kv :: kvs, h1, h2, g => by
    obtain ⟨xs, q1, q2, q3⟩ := pairs_get ok ps ks kvs (by simpa using h1) (by simpa using h2) fun i p b kv a1 a2 a3 => g (i + 1) p b kv (by simpa using a1) (by simpa using a2) (by simpa using a3)
    obtain ⟨e1, e2⟩ := g 0 p b kv rfl rfl rfl
    obtain ⟨z, its, r, t⟩ := (show ObjOk P w H h p (.tup [.ref b, kv.2]) from ok p _ e1)
    cases r with
    | cons ra rt => cases rt with
      | cons rb rn =>
        cases rn
        cases ra
        rename_i u
        refine ⟨(kv.1, b, u) :: xs, .cons ⟨rfl, e2, rb⟩ q1, by rw [List.map_cons, q2], fun i x p' a1 a2 => ?_⟩
        cases i with
        | zero =>
          obtain rfl : (kv.1, b, u) = x := by simpa using a1
          obtain rfl : p = p' := by simpa using a2
          exact t
        | succ i => exact q3 i x p' (by simpa using a1) (by simpa using a2)
theorem cr_dictT (hc : X.calm = true) (hu : X.A.units + 8 < cLine) : CallR X (.type "dict") (rDictT X.K) := by
  intro pins s σ H xs us Q I r h
  obtain ⟨a, ps, kvs, ks, rfl, hl, l1, l2, nd, g, q⟩ := h
  obtain ⟨u, rfl, rx⟩ := r.one
  cases rx
  obtain ⟨its, rv, ⟨o, n, ho, hcl, hdd, hda⟩, hz⟩ := I.list hl
  have ei := refs_at2 rv
  subst ei
  rw [List.length_map] at hz
  obtain ⟨xs, q1, q2, q3⟩ := pairs_get I.hok ps ks kvs l1 l2 g
  have lx : xs.length = kvs.length := (Paired.length q1).symm
  have hn : ((xs.map fun x => (Value.ref x.2.1, x.2.2)).length) = ps.length := by rw [List.length_map, lx, l1]
  have hmap : xs.map (·.1) = kvs.map (·.1) := by
    have : ∀ {kvs : List (List Key × V)} {xs : List (List Key × Addr × Value)}, KT H kvs xs → xs.map (·.1) = kvs.map (·.1) := by
      intro kvs xs q
      induction q with
      | nil => rfl
      | cons h t ih => rw [List.map_cons, List.map_cons, ih, h.1]
    exact this q1
  refine call_dict_pairsH (knd := tupleKind (mixKind X.prog X.w)) (ps := xs) (PairArg.list (prog := X.prog) (w := X.w) a (ps.map Value.ref).toArray (fun j => ps.getD j 0) (xs.map fun x => (Value.ref x.2.1, x.2.2))) (I.ok.hd hc) (show X.A.units + 1 + 1 < cLine by omega)
    ⟨⟨o, n, ho, hcl, hdd, hda⟩, by simp [lx, l1], fun j k v e => ?_⟩ ⟨by rw [List.length_map], fun i key v e => ?_⟩ (fun h' hk x hx => ?_) (by rw [hn]; exact hz) fun h' tk dd' kp => ?_
  · rw [List.getElem?_map] at e
    obtain ⟨x, hx, e2⟩ := Option.map_eq_some_iff.mp e
    cases e2
    have hj : j < ps.length := by
      have := (List.getElem?_eq_some_iff.mp hx).1
      omega
    have hp : ps[j]? = some ps[j] := List.getElem?_eq_getElem hj
    have hp2 : ps.getD j 0 = ps[j] := by simp [hp]
    refine ⟨by simp [hp, hp2], .inl ?_⟩
    have t := q3 j x ps[j] hx hp
    dsimp only
    rw [hp2]
    exact t
  · rw [PairRel, List.getElem?_map] at e
    obtain ⟨x, hx, e2⟩ := Option.map_eq_some_iff.mp e
    cases e2
    exact ⟨x.1, x.2.1, hx, rfl⟩
  · have is0 : ∀ {kvs : List (List Key × V)} {xs : List (List Key × Addr × Value)}, KT H kvs xs → ∀ x ∈ xs, H x.2.1 = some (.tup (x.1.map kV)) := by
      intro kvs xs q
      induction q with
      | nil => intro x hx; cases hx
      | cons h t ih =>
        intro x hx
        rcases List.mem_cons.mp hx with rfl | hx
        · rw [← h.1]; exact h.2.1
        · exact ih x hx
    have e := is0 q1 x hx
    have key : (tupleKind (mixKind X.prog X.w)).is s.heap x.1 x.2.1 := key_of I.hok e
    obtain ⟨o, items, n, e1, e2, e3, e4⟩ := (show IsTupleKey (mixKind X.prog X.w) s.heap x.1 x.2.1 from key)
    exact ⟨o, items, n, hk x.2.1 o (Nat.ne_of_lt (HOk.lt I.hok e)) (by simp) e1, e2, e3, e4⟩
  · obtain ⟨o2, es, ep, hq, h2, h3, h4, _, h5⟩ := dd'
    rw [pairs_stored (by rw [List.nil_append, hmap]; exact nd), List.nil_append] at h4 h5
    have hsys : (s.heap.objs.size == sysModules) = false := beq_eq_false_iff_ne.mpr (Nat.ne_of_gt I.big)
    refine ⟨.ref s.heap.objs.size, upd H s.heap.objs.size (.dT kvs), I.laid (t' := tk) (fun b o e => kp b o (by simp) e) (Nat.le_refl _) (show ObjOk X.prog X.w _ _ _ (.dT kvs) from ⟨by omega, hsys, xs, q1.keeps fun c ys ec => ?_, o2, es, ep, hq, h2, h3, h4, h5⟩), rfl, q _ (I.hok.fresh (Nat.le_refl _))⟩
    rw [upd_ne (ne_of_none ec (I.hok.fresh (Nat.le_refl _)))]
    exact ec
end
end MX
end

section
set_option Elab.async false
set_option linter.all false
set_option maxRecDepth 100000
set_option maxHeartbeats 4000000
/-! Sets whose members are tuples of any make (KE.KeyNested): put in, found. -/
namespace MX
open PySem PySem.Spec PyProof.Rows L2
section
variable {P : Program} {w : World} {s : Shared}
/-- the question f is answered by b at v, whatever asks -/
def Ans (P : Program) (w : World) (s : Shared) (f : Value → Sem Bool) (b : Bool) (v : Value) : Prop := ∀ (A : Around) (E : Value → Shared → Prop) (Q : Bool → Shared → Prop), Q b s → wpAny (model P w) A (f v) Q E s

theorem cls_tup {n : Nat} {a : Addr} {o : Obj} {vs : Array Value} {m : Nat} (e1 : s.heap.get? a = some o) (e2 : o.cls = .type "tuple") (e3 : o.data = .seq vs m) (hv : ∀ v ∈ vs.toList, Ans P w s (ofAClassStatement n) false v) : Ans P w s (ofAClassStatement (n + 1)) false (.ref a) := by
  intro A E Q hq
  have ty : s.TypeIs (.ref a) "tuple" := ⟨o, e1, e2⟩
  unfold ofAClassStatement
  refine wpAny_bind (wpAny_typeOf ty ?_)
  dsimp only
  rw [if_pos (by decide : (("tuple" : String) == "tuple") = true)]
  refine wpAny_bind (wpAny_pure ?_)
  rw [if_neg (by decide)]
  refine wpAny_bind (m := seqItems? (.ref a)) (wpAny_seqItems e1 e3 ?_)
  dsimp only
  refine wpAny_bind ?_
  show wpAny _ _ (forIn vs _ _) _ _ s
  rw [← Array.forIn_toList]
  refine wpAny_forIn_list _ (fun l r s' => s' = s ∧ r.1 = none ∧ ∀ v ∈ l, Ans P w s (ofAClassStatement n) false v) _ ?_ ?_ _ _ ⟨rfl, rfl, hv⟩
  · rintro v l r s1 ⟨rfl, hr, hl⟩
    refine wpAny_bind (hl v List.mem_cons_self _ _ _ ?_)
    rw [if_neg Bool.false_ne_true]
    exact wpAny_pure ⟨rfl, rfl, fun u hu => hl u (List.mem_cons_of_mem _ hu)⟩
  · rintro ⟨r, _⟩ s1 ⟨rfl, hr, _⟩
    obtain rfl : r = none := hr
    exact wpAny_pure hq
theorem hv_tup {n : Nat} {a : Addr} {o : Obj} {vs : Array Value} {m : Nat} (e1 : s.heap.get? a = some o) (e2 : o.cls = .type "tuple") (e3 : o.data = .seq vs m) (hv : ∀ v ∈ vs.toList, Ans P w s (hashByValue n) true v) : Ans P w s (hashByValue (n + 1)) true (.ref a) := by
  intro A E Q hq
  have ty : s.TypeIs (.ref a) "tuple" := ⟨o, e1, e2⟩
  unfold hashByValue
  refine wpAny_bind (wpAny_specialOf ty PySem.F.slot_tuple_hash.lookup ?_)
  refine wpAny_bind (m := seqItems? (.ref a)) (wpAny_seqItems e1 e3 ?_)
  refine wpAny_bind ?_
  show wpAny _ _ (forIn vs _ _) _ _ s
  rw [← Array.forIn_toList]
  refine wpAny_forIn_list _ (fun l r s' => s' = s ∧ r.1 = none ∧ ∀ v ∈ l, Ans P w s (hashByValue n) true v) _ ?_ ?_ _ _ ⟨rfl, rfl, hv⟩
  · rintro v l r s1 ⟨rfl, hr, hl⟩
    refine wpAny_bind (hl v List.mem_cons_self _ _ _ ?_)
    rw [if_neg (by decide)]
    exact wpAny_pure ⟨rfl, rfl, fun u hu => hl u (List.mem_cons_of_mem _ hu)⟩
  · rintro ⟨r, _⟩ s1 ⟨rfl, hr, _⟩
    obtain rfl : r = none := hr
    exact wpAny_pure hq
/-! whole numbers and tuples of such, nested -/
mutual
def Nums : NestedKey → Prop
  | .num _ => True
  | .tup ks => NumsAll ks
  | .none => False
  | .text _ => False
def NumsAll : List NestedKey → Prop
  | [] => True
  | k :: ks => Nums k ∧ NumsAll ks
end
mutual
theorem cls_key : ∀ (k : NestedKey) (v : Value) (n : Nat), NestedIs s.heap k v → k.depth ≤ n → Ans P w s (ofAClassStatement n) false v
  | .none, _, n, x, _ => by cases x; intro A E Q hq; cases n <;> exact wpAny_pure hq
  | .num i, _, n, x, _ => by cases x <;> (intro A E Q hq; cases n <;> exact wpAny_pure hq)
  | .text y, _, n, x, _ => by cases x; intro A E Q hq; cases n <;> exact wpAny_pure hq
  | .tup ks, _, n, x, hn => by
    cases x with
    | tup h1 h2 h3 h4 =>
      cases n with
      | zero => simp only [NestedKey.depth] at hn; omega
      | succ n => exact cls_tup h1 h2 h3 (cls_keys ks _ n h4 (by simp only [NestedKey.depth] at hn; omega))
theorem cls_keys : ∀ (ks : List NestedKey) (vs : List Value) (n : Nat), NestedAll s.heap ks vs → NestedKey.depthAll ks ≤ n → ∀ v ∈ vs, Ans P w s (ofAClassStatement n) false v
  | [], _, n, x, _, v, hv => by cases x; cases hv
  | k :: ks, _, n, x, hn, v, hv => by
    cases x with
    | cons x1 x2 =>
      simp only [NestedKey.depthAll] at hn
      cases hv with
      | head => exact cls_key k _ n x1 (by omega)
      | tail _ hv => exact cls_keys ks _ n x2 (by omega) v hv
end
mutual
theorem hv_key : ∀ (k : NestedKey) (v : Value) (n : Nat), NestedIs s.heap k v → Nums k → k.depth ≤ n → Ans P w s (hashByValue n) true v
  | .none, _, n, x, z, _ => z.elim
  | .num i, _, n, x, _, _ => by cases x <;> (intro A E Q hq; cases n <;> exact wpAny_pure hq)
  | .text y, _, n, x, z, _ => z.elim
  | .tup ks, _, n, x, z, hn => by
    cases x with
    | tup h1 h2 h3 h4 =>
      cases n with
      | zero => simp only [NestedKey.depth] at hn; omega
      | succ n => exact hv_tup h1 h2 h3 (hv_keys ks _ n h4 z (by simp only [NestedKey.depth] at hn; omega))
theorem hv_keys : ∀ (ks : List NestedKey) (vs : List Value) (n : Nat), NestedAll s.heap ks vs → NumsAll ks → NestedKey.depthAll ks ≤ n → ∀ v ∈ vs, Ans P w s (hashByValue n) true v
  | [], _, n, x, _, _, v, hv => by cases x; cases hv
  | k :: ks, _, n, x, z, hn, v, hv => by
    cases x with
    | cons x1 x2 =>
      simp only [NestedKey.depthAll] at hn
      cases hv with
      | head => exact hv_key k _ n x1 z.1 (by omega)
      | tail _ hv => exact hv_keys ks _ n x2 z.2 (by omega) v hv
end

/-- the tuple at b is the key k: of numbers, of no great depth -/
structure IsN (h : Heap) (k : NestedKey) (b : Addr) : Prop where
  is : NestedIs h k (.ref b)
  dp : k.depth ≤ 8
  nm : Nums k
theorem IsN.knd {h : Heap} {k : NestedKey} {b : Addr} (x : IsN h k b) : (nestedKind P w).is h k b := ⟨x.is, x.dp⟩
theorem IsN.keep {h h' : Heap} {k : NestedKey} {b : Addr} (x : IsN h k b) (q : ∀ c o, h.get? c = some o → (∀ es n t, o.data ≠ .set es n t) → h'.get? c = some o) : IsN h' k b :=
  ⟨NestedIs.at (fun c o vs n e d => q c o e fun es m t z => by rw [d] at z; cases z) k _ x.is, x.dp, x.nm⟩
theorem IsN.other {h h' : Heap} {k : NestedKey} {a b : Addr} {o : Obj} {es : Array (Int × Value)} {ep : Nat} {t : SetTable} (x : IsN h k b) (ho : h.get? a = some o) (hd : o.data = .set es ep t) (sb : Heap.SameBut a h h') : IsN h' k b := by
  refine x.keep fun c u e ne => (sb.2 c ?_).trans e
  rintro rfl
  rw [ho] at e
  cases e
  exact ne _ _ _ hd

variable {A : Around} {E : Value → Shared → Prop}
theorem seen_key {k : NestedKey} {b : Addr} {Q : Bool → Shared → Prop} (hk : IsN s.heap k b) {ys : List Value} (hy : ∀ y ∈ ys, ∃ k' c, y = Value.ref c ∧ IsN s.heap k' c) (hq : Q false s) : wpAny (model P w) A (searchCouldBeSeen (.ref b) ys) Q E s := by
  unfold searchCouldBeSeen
  refine wpAny_bind (wpAny_forIn_list _ (fun l r s' => s' = s ∧ r.1 = none ∧ ∀ y ∈ l, ∃ k' c, y = Value.ref c ∧ IsN s.heap k' c) _ ?_ ?_ _ _ ⟨rfl, rfl, hy⟩)
  · rintro v l r s1 ⟨rfl, hr, hl⟩
    obtain ⟨k', c, rfl, hc⟩ := hl v List.mem_cons_self
    have nxt := fun u hu => hl u (List.mem_cons_of_mem _ hu)
    dsimp only
    by_cases same : (b == c || (carriedByValue (.ref b) && carriedByValue (.ref c))) = true
    · exact wp_if_pos same (wpAny_pure ⟨rfl, rfl, nxt⟩)
    · refine wp_if_neg same ?_
      refine wpAny_bind (quiet_key k _ 8 s1 hk.is hk.dp A E _ ?_)
      rw [if_neg (by decide)]
      refine wpAny_bind (quiet_key k' _ 8 s1 hc.is hc.dp A E _ ?_)
      rw [if_neg (by decide)]
      refine wpAny_bind (cls_key k _ 8 hk.is hk.dp A E _ ?_)
      rw [if_neg (by decide)]
      refine wpAny_bind (cls_key k' _ 8 hc.is hc.dp A E _ ?_)
      rw [if_neg (by decide)]
      exact wpAny_pure ⟨rfl, rfl, nxt⟩
  · rintro ⟨r, _⟩ s1 ⟨rfl, hr, _⟩
    obtain rfl : r = none := hr
    exact wpAny_pure hq
end

/-! ### the set -/
def nrows (w : World) (L : List (Addr × NestedKey)) : List (Int × Value) := L.map fun p => (p.2.hash w, .ref p.1)
structure NSet (w : World) (h : Heap) (a : Addr) (L : List (Addr × NestedKey)) (es : Array (Int × Value)) (ep : Nat) (t : SetTable) : Prop where
  ob : ∃ o, h.get? a = some o ∧ o.ExactSet ∧ o.data = .set es ep t
  rows : es.toList = nrows w L
  tab : TabOk t (L.map fun p => p.2.hash w)
  nd : (L.map (·.2)).Nodup
  key : ∀ p ∈ L, IsN h p.2 p.1
  plain : t.plain = true
  led : w.params.followText "set-order" = true ∨ t.led = true
  room : L.length * 5 < t.mask * 3
  few : L.length < 64
section
variable {P : Program} {w : World} {s : Shared} {A : Around} {E : Value → Shared → Prop} {a : Addr} {L : List (Addr × NestedKey)} {es : Array (Int × Value)} {ep : Nat} {t : SetTable}
theorem nrows_size (e : es.toList = nrows w L) : es.size = L.length := by
  have q : es.toList.length = (nrows w L).length := by rw [e]
  unfold nrows at q
  simpa using q
theorem fits_of (e1 : t.dummies = #[]) (e2 : t.place.size = es.size) (e3 : es.size ≤ t.mask) : t.fits es.size = true := by
  unfold SetTable.fits SetTable.fill
  rw [e1, e2]
  simpa using e3
theorem NSet.fits (R : NSet w s.heap a L es ep t) : t.fits es.size = true := by
  have q1 := R.tab.sz
  have q2 := R.room
  have q3 := nrows_size R.rows
  rw [List.length_map] at q1
  exact fits_of R.tab.dm (by omega) (by omega)
theorem nrow_at (e : es.toList = nrows w L) {i : Nat} {p : Addr × NestedKey} (h : L[i]? = some p) : es[i]? = some (p.2.hash w, Value.ref p.1) := by
  have q : es.toList[i]? = (nrows w L)[i]? := by rw [e]
  unfold nrows at q
  rw [Array.getElem?_toList, List.getElem?_map, h] at q
  exact q
theorem place_lt (T : TabOk t (L.map fun p => p.2.hash w)) {i j : Nat} (h : t.place.toList[i]? = some j) : i < L.length := by
  have q1 := (List.getElem?_eq_some_iff.mp h).1
  have q2 := T.sz
  rw [List.length_map] at q2
  rw [Array.length_toList] at q1
  omega
theorem calm_probe (m : Nat) : ∀ (n : Nat) (p : SetTable.Probe), p.dummy = none → (nth m p n).dummy = none
  | 0, _, h => h
  | n + 1, p, h => calm_probe m n (adv m p) (by unfold adv; split <;> exact h)
/-- the probe that begins the search for the hash h -/
abbrev beg (t : SetTable) (h : Int) : SetTable.Probe := runAt t.mask (SetTable.bits h % (t.mask + 1)) (SetTable.bits h)

/-- the search, begun at the c-th step of the way of k's hash: K is the first step to an empty slot -/
theorem nsearch (R : NSet w s.heap a L es ep t) {x : Addr} {k : NestedKey} (hx : IsN s.heap k x) (hu : A.units + 8 < cLine) {K : Nat} (K1 : K < 10 * SetTable.turns t.mask) (K2 : way t.mask (k.hash w) K ∉ t.place.toList) (K3 : ∀ c, c < K → way t.mask (k.hash w) c ∈ t.place.toList)
    {Q : SetFound → Shared → Prop} (yes : k ∈ L.map (·.2) → Q (.there none) s) (no : k ∉ L.map (·.2) → Q (.free (way t.mask (k.hash w) K) false) s) :
    ∀ (fuel c : Nat) (stand : Option SetTable.Probe), K - c < fuel → c ≤ K → stand.getD (t.probeStart (k.hash w)) = nth t.mask (beg t (k.hash w)) c →
      (∀ (i : Nat) p, L[i]? = some p → p.2 = k → ∃ c', c ≤ c' ∧ c' < K ∧ t.place.toList[i]? = some (way t.mask (k.hash w) c')) → wpAny (model P w) A (setSearchFrom a (.ref x) (k.hash w) true fuel stand) Q E s := by
  obtain ⟨o, ho, hex, hd⟩ := R.ob
  intro fuel
  induction fuel with
  | zero => intro c stand lt; exact absurd lt (Nat.not_lt_zero _)
  | succ fuel ih =>
    intro c stand lt le est ahead
    have sh : ∀ q, nth t.mask (nth t.mask (beg t (k.hash w)) c) q = nth t.mask (beg t (k.hash w)) (c + q) := fun q => (nth_add t.mask c _ q).symm
    have shj : ∀ q, (nth t.mask (nth t.mask (beg t (k.hash w)) c) q).j = way t.mask (k.hash w) (c + q) := fun q => by rw [sh]
    have hK : c + (K - c) = K := by omega
    have hash_i : ∀ (i : Nat) p, L[i]? = some p → ((es[i]?.map (·.1)).getD 0) = p.2.hash w := fun i p hp => by rw [nrow_at R.rows hp]; rfl
    have met := go_spec t R.tab.ris R.tab.dm (fun i => (es[i]?.map (·.1)).getD 0) (k.hash w) (10 * SetTable.turns t.mask) (K - c) (nth t.mask (beg t (k.hash w)) c) (calm_probe _ _ _ rfl) (by omega) (fun q hq => by rw [shj]; exact K3 _ (by omega)) (by rw [shj, hK]; exact K2)
    rw [setSearchFrom_succ]
    refine wpAny_bind (wpAny_setState_of ho hd R.fits ?_)
    dsimp only
    have gw : ¬ t.gaveWay = true := by unfold SetTable.gaveWay; rw [mask_odd R.tab.mok]; decide
    refine wp_if_neg gw ?_
    try refine wpAny_bind (wpAny_pure ?_)
    rcases met with ⟨q, i, hq, hi, hh, none_before, pr⟩ | ⟨none_before, pr⟩
    · rw [show t.probe (fun i => (es[i]?.map (·.1)).getD 0) (k.hash w) (stand.getD (t.probeStart (k.hash w))) = some (.candidate (way t.mask (k.hash w) (c + q)) i (nth t.mask (beg t (k.hash w)) (c + (q + 1)))) by rw [est, ← shj, ← sh]; exact pr]
      dsimp only
      rw [shj] at hi
      have hil := place_lt R.tab hi
      obtain ⟨p, hp⟩ : ∃ p, L[i]? = some p := ⟨_, List.getElem?_eq_getElem hil⟩
      have pL : p ∈ L := List.mem_of_getElem? hp
      have here := slot_live R.tab.ris hi
      have onward : wpAny (model P w) A (searchRest a (.ref x) (k.hash w) true fuel es t (way t.mask (k.hash w) (c + q)) i (nth t.mask (beg t (k.hash w)) (c + (q + 1)))) Q E s := by
        unfold searchRest
        rw [nrow_at R.rows hp]
        dsimp only
        refine wpAny_bind (wpAny_holding ((nestedKind P w).eqBool hu (R.key p pL).knd hx.knd ?_))
        refine wpAny_bind (wpAny_setState_of ho hd R.fits ?_)
        dsimp only
        by_cases eqk : p.2 = k
        · exact wp_if_pos (by simp [eqk]) (wpAny_pure (yes (List.mem_map.mpr ⟨p, pL, eqk⟩)))
        · refine wp_if_neg (by simp [eqk]) ?_
          try refine wpAny_bind (wpAny_pure ?_)
          rw [sameMem]
          dsimp only
          simp only [if_true, here, nrow_at R.rows hp]
          refine wpAny_bind (wpAny_isSame_ref_self (wpAny_bind (wpAny_pure ?_)))
          simp only [if_true]
          refine wp_if_neg (by simp [eqk]) (ih (c + (q + 1)) _ (by omega) (by omega) rfl fun j p0 h0 k0 => ?_)
          obtain ⟨c', b1, b2, b3⟩ := ahead j p0 h0 k0
          refine ⟨c', ?_, b2, b3⟩
          refine Nat.lt_of_not_le fun z => ?_
          have z : c' ≤ c + q := z
          by_cases zz : c' = c + q
          · have l2 := slot_live R.tab.ris (zz ▸ b3)
            rw [here] at l2
            cases l2
            rw [hp] at h0
            cases h0
            exact eqk k0
          · refine none_before (c' - c) j (by omega) ?_ ((hash_i j p0 h0).trans (by rw [k0]))
            rw [shj, show c + (c' - c) = c' by omega]
            exact b3
      by_cases ld : t.led = true
      · refine wp_if_neg (by simp [ld]) ?_
        try refine wpAny_bind (wpAny_pure ?_)
        exact onward
      · refine wp_if_pos (by simp [ld]) ?_
        refine wpAny_bind (seen_key hx (fun y hy => ?_) ?_)
        · obtain ⟨e, he, rfl⟩ := List.mem_map.mp hy
          have e2 : e ∈ es.toList := by
            have : e ∈ es ∧ e.1 = k.hash w := by simpa using he
            simpa using this.1
          rw [R.rows] at e2
          obtain ⟨p2, hp2, rfl⟩ := List.mem_map.mp e2
          exact ⟨p2.2, p2.1, rfl, R.key p2 hp2⟩
        · refine wp_if_neg (by decide) ?_
          try refine wpAny_bind (wpAny_pure ?_)
          exact onward
    · rw [show t.probe (fun i => (es[i]?.map (·.1)).getD 0) (k.hash w) (stand.getD (t.probeStart (k.hash w))) = some (.empty (way t.mask (k.hash w) K) none) by
        have e2 := shj (K - c)
        rw [hK] at e2
        rw [est, ← e2]
        exact pr]
      dsimp only
      refine wpAny_pure (no fun hm => ?_)
      obtain ⟨p0, m0, k0⟩ := List.mem_map.mp hm
      obtain ⟨j, hj⟩ := List.mem_iff_getElem?.mp m0
      obtain ⟨c', b1, b2, b3⟩ := ahead j p0 hj k0
      refine none_before (c' - c) j (by omega) ?_ ((hash_i j p0 hj).trans (by rw [k0]))
      rw [shj, show c + (c' - c) = c' by omega]
      exact b3
theorem nfind (R : NSet w s.heap a L es ep t) {x : Addr} {k : NestedKey} (hx : IsN s.heap k x) (hu : A.units + 8 < cLine) {Q : SetFound → Shared → Prop} (yes : k ∈ L.map (·.2) → Q (.there none) s)
    (no : ∀ K, k ∉ L.map (·.2) → way t.mask (k.hash w) K ∉ t.place.toList → (∀ c, c < K → way t.mask (k.hash w) c ∈ t.place.toList) → Q (.free (way t.mask (k.hash w) K) false) s) : wpAny (model P w) A (setSearch a (.ref x) (k.hash w) true) Q E s := by
  have rm := R.room
  obtain ⟨K, K1, K2, K3⟩ := R.tab.first (by rw [List.length_map]; omega) (k.hash w)
  have small : 10 * SetTable.turns t.mask ≤ 1420 := by
    unfold SetTable.turns
    rcases R.tab.mok with e | e | e <;> omega
  unfold setSearch
  refine nsearch R hx hu K1 K2 K3 yes (fun hn => no K hn K2 K3) 100000 0 none (by omega) (Nat.zero_le _) rfl fun i p hp e => ?_
  have hi : (L.map fun p => p.2.hash w)[i]? = some (k.hash w) := by rw [List.getElem?_map, hp, ← e]; rfl
  have lt : i < t.place.toList.length := by
    have q1 := (List.getElem?_eq_some_iff.mp hp).1
    have q2 := R.tab.sz
    rw [List.length_map] at q2
    rw [Array.length_toList]
    omega
  obtain ⟨c, b1, b2⟩ := R.tab.before K2 hi (List.getElem?_eq_getElem lt)
  exact ⟨c, Nat.zero_le _, b1, by rw [b2]; exact List.getElem?_eq_getElem lt⟩
end
end MX
end

section
set_option Elab.async false
set_option linter.all false
set_option maxRecDepth 100000
set_option maxHeartbeats 4000000
/-! Sets whose members are tuples of any make: set(xs), and what sorted gets of them. -/
namespace MX
open PySem PySem.Spec PyProof.Rows L2
section
variable {P : Program} {w : World} {s : Shared} {A : Around} {E : Value → Shared → Prop} {a : Addr} {L : List (Addr × NestedKey)} {es : Array (Int × Value)} {ep : Nat} {t : SetTable}
/-- the rows by an order of their places -/
theorem nrows_by (e : es.toList = nrows w L) (l : List Nat) (hl : ∀ i ∈ l, i < L.length) :
    l.filterMap (fun i => es[i]?) = nrows w (l.filterMap fun i => L[i]?) ∧ ((l.filterMap fun i => L[i]?).map fun p => p.2.hash w) = l.map fun i => (es.map (·.1)).getD i 0 := by
  induction l with
  | nil => exact ⟨rfl, rfl⟩
  | cons i l ih =>
    have lt := hl i (by simp)
    obtain ⟨q1, q2⟩ := ih fun j hj => hl j (by simp [hj])
    have g := List.getElem?_eq_getElem lt
    have r := nrow_at e g
    have r2 : (es.map (·.1)).getD i 0 = (L[i]).2.hash w := by
      rw [Array.getD_eq_getD_getElem?, Array.getElem?_map, r]
      rfl
    constructor
    · rw [List.filterMap_cons_some r, List.filterMap_cons_some g, q1]
      rfl
    · rw [List.filterMap_cons_some g, List.map_cons, List.map_cons, q2, r2]
theorem all_places {α : Type} (L : List α) : (List.range L.length).filterMap (fun i => L[i]?) = L := by
  have e : ∀ (M : List α) (n : Nat), n = M.length → (List.range n).filterMap (fun i => M[i]?) = M := by
    intro M
    induction M with
    | nil => intro n hn; subst hn; rfl
    | cons x M ih =>
      intro n hn
      subst hn
      rw [List.length_cons, List.range_succ_eq_map, List.filterMap_cons_some (by rfl : (x :: M)[0]? = some x), List.filterMap_map]
      have h := ih M.length rfl
      rw [show ((fun i => (x :: M)[i]?) ∘ Nat.succ) = fun i => M[i]? from funext fun i => by simp, h]
  exact e L _ rfl
/-- the table laid anew -/
theorem nrelay {o : Obj} (ho : s.heap.get? a = some o) (hex : o.ExactSet) (hd : o.data = .set es ep t) (hr : es.toList = nrows w L) (hs : t.place.size = es.size) (hdm : t.dummies = #[]) (hm : es.size ≤ t.mask) (nd : (L.map (·.2)).Nodup) (key : ∀ p ∈ L, IsN s.heap p.2 p.1) (pl : t.plain = true)
    (ld : w.params.followText "set-order" = true ∨ t.led = true) (few : L.length < 64) {wanted M : Nat} (hw : SetTable.sizeAbove wanted - 1 = M) (hM : MaskOk M) (hw2 : SetTable.sizeAbove wanted ≤ 128) (hn : L.length * 5 < M * 3) {Q : Unit → Shared → Prop}
    (hq : ∀ h' L' es' ep' t', Heap.SameBut a s.heap h' → NSet w h' a L' es' ep' t' → L'.Perm L → Q () { s with heap := h' }) : wpAny (model P w) A (setRelay a wanted) Q E s := by
  have hl := nrows_size hr
  obtain ⟨t2, order, laid, perm, T, tm, tl, tp, td⟩ := relaid_ok t (hs := es.map (·.1)) (wanted := wanted) hw hM (by rw [Array.size_map]; omega)
  rw [Array.size_map, hl] at perm
  obtain ⟨q1, q2⟩ := nrows_by hr order.toList fun i hi => List.mem_range.mp (perm.mem_iff.mp hi)
  have pm : (order.toList.filterMap fun i => L[i]?).Perm L := by
    have := perm.filterMap (fun i => L[i]?)
    rwa [all_places] at this
  rw [← q2] at T
  generalize (order.toList.filterMap fun i => L[i]?) = L2 at q1 pm T
  have q1' : (order.filterMap (es[·]?)).toList = nrows w L2 := by rw [Array.toList_filterMap]; exact q1
  have sz : (order.filterMap (es[·]?)).size = es.size := by rw [nrows_size q1', pm.length_eq, hl]
  rw [setRelay_eq]
  refine wpAny_bind (wpAny_setState_of ho hd (fits_of hdm hs hm) ?_)
  dsimp only
  refine wp_if_neg (by rw [sizeLine_eq]; omega) ?_
  try refine wpAny_bind (wpAny_pure ?_)
  rw [laid]
  dsimp only
  refine wpAny_bind (wp_if_neg (by rw [sz]; simp) ?_)
  try refine wpAny_bind (wpAny_pure ?_)
  refine wpAny_pure ?_
  dsimp only
  have sb : Heap.SameBut a s.heap (s.heap.update a (Obj.putSet (order.filterMap (es[·]?)) t2)) := Heap.SameBut.update ..
  refine wpAny_storeSet_of ho hd (hq _ L2 _ (ep + 1) t2 sb ⟨⟨_, store_at ho hd, ⟨hex.1, hex.2.1, hex.2.2⟩, rfl⟩, q1', T, (pm.map (·.2)).nodup_iff.mpr nd, fun p hp => (key p (pm.mem_iff.mp hp)).other ho hd sb, tp.trans pl, by rw [tl]; exact ld, by rw [pm.length_eq, tm]; exact hn, by rw [pm.length_eq]; exact few⟩ pm) (by rw [sz, hl, sizeLine_eq]; omega)
/-- one more is put in -/
theorem nadd (R : NSet w s.heap a L es ep t) {x : Addr} {k : NestedKey} (hx : IsN s.heap k x) (hu : A.units + 8 < cLine) (few : L.length + 1 < 64) {Q : Bool → Shared → Prop}
    (hq : ∀ b h' L' es' ep' t', Heap.SameBut a s.heap h' → NSet w h' a L' es' ep' t' → (k ∈ L.map (·.2) ∧ L' = L ∨ k ∉ L.map (·.2) ∧ L'.Perm ((x, k) :: L)) → Q b { s with heap := h' }) :
    wpAny (model P w) A (setAddHashed a (.ref x) (k.hash w)) Q E s := by
  obtain ⟨o, ho, hex, hd⟩ := R.ob
  have hl := nrows_size R.rows
  have rm := R.room
  unfold setAddHashed
  refine wpAny_holding ?_
  rw [show (100000 : Nat) = 99999 + 1 from rfl, setAddHashedIn_succ]
  refine wpAny_bind (wpAny_setState_of ho hd R.fits ?_)
  dsimp only
  refine wp_if_neg (by simp [byScan, Value.scannable]) ?_
  try refine wpAny_bind (wpAny_pure ?_)
  refine wpAny_bind (nfind R hx hu (fun there => ?_) fun K away K2 K3 => ?_)
  · dsimp only
    exact wpAny_pure (hq false s.heap L es ep t (Heap.SameBut.refl a s.heap) R (.inl ⟨there, rfl⟩))
  dsimp only
  refine wpAny_bind (wpAny_setState_of ho hd R.fits ?_)
  dsimp only
  obtain ⟨p1, p2, p3, p4, p5, p6, p7, p8, p9⟩ := R.tab.put K2 K3
  have plain1 : (t.put (way t.mask (k.hash w) K)).1.plain = true := p6.trans R.plain
  rcases hpt : t.put (way t.mask (k.hash w) K) with ⟨t1, p⟩
  rw [hpt] at p1 p3 p4 p5 p6 p7 p8 p9 plain1
  dsimp only at p1 p3 p4 p5 p6 p7 p8 p9 plain1 ⊢
  subst p1
  first
    | refine wp_if_pos plain1 (wpAny_bind (hv_key k _ 8 hx.is hx.nm hx.dp A E _ ?_))
    | (refine wpAny_bind ?_; refine wp_if_pos plain1 ?_; refine hv_key k _ 8 hx.is hx.nm hx.dp A E _ ?_)
  simp only [if_true]
  generalize SetTable.below t.place (way t.mask (k.hash w) K) = p at p2 p3 ⊢
  have pm : (L.take p ++ (x, k) :: L.drop p).Perm ((x, k) :: L) := put_perm L p (x, k)
  have rows1 : (SetTable.insertAt es p (k.hash w, Value.ref x)).toList = nrows w (L.take p ++ (x, k) :: L.drop p) := by
    rw [SetTable.toList_insertAt, R.rows]
    unfold nrows
    simp [List.map_take, List.map_drop]
  have tab1 : TabOk t1 ((L.take p ++ (x, k) :: L.drop p).map fun p => p.2.hash w) := by
    have e : ((L.take p ++ (x, k) :: L.drop p).map fun p => p.2.hash w) = (L.map fun p => p.2.hash w).take p ++ k.hash w :: (L.map fun p => p.2.hash w).drop p := by simp [List.map_take, List.map_drop]
    rw [e]
    exact p3
  have len1 : (L.take p ++ (x, k) :: L.drop p).length = L.length + 1 := pm.length_eq
  have nd1 : ((L.take p ++ (x, k) :: L.drop p).map (·.2)).Nodup := (pm.map (·.2)).nodup_iff.mpr (by rw [List.map_cons]; exact List.nodup_cons.mpr ⟨away, R.nd⟩)
  generalize L.take p ++ (x, k) :: L.drop p = L1 at pm rows1 tab1 len1 nd1
  have size1 := nrows_size rows1
  generalize SetTable.insertAt es p (k.hash w, Value.ref x) = es1 at rows1 size1 ⊢
  refine wpAny_bind (wpAny_storeSet_of ho hd ?_ (by rw [size1, len1, sizeLine_eq]; omega))
  have sb : Heap.SameBut a s.heap (s.heap.update a (Obj.putSet es1 t1)) := Heap.SameBut.update ..
  have ho1 := store_at (es' := es1) (t' := t1) ho hd
  have key1 : ∀ p ∈ L1, IsN (s.heap.update a (Obj.putSet es1 t1)) p.2 p.1 := by
    intro p hp
    have hp := pm.mem_iff.mp hp
    cases hp with
    | head => exact hx.other ho hd sb
    | tail _ hp => exact (R.key p hp).other ho hd sb
  generalize s.heap.update a (Obj.putSet es1 t1) = h1 at sb ho1 key1 ⊢
  have led1 : w.params.followText "set-order" = true ∨ t1.led = true := by rw [p5]; exact R.led
  have ex1 : ({ o with data := .set es1 (ep + 1) t1 } : Obj).ExactSet := ⟨hex.1, hex.2.1, hex.2.2⟩
  by_cases full : t1.tooFull = true
  · first
      | (refine wpAny_bind ?_; refine wp_if_pos (by simp [full]) ?_)
      | (refine wp_if_pos (by simp [full]) ?_; refine wpAny_bind ?_)
    have f2 : (L.length + 1) * 5 ≥ t1.mask * 3 := by
      unfold SetTable.tooFull at full
      rw [decide_eq_true_eq, p9, List.length_map] at full
      exact full
    rw [hl]
    have again : ∀ M, SetTable.sizeAbove (SetTable.grown (L.length + 1)) - 1 = M → MaskOk M → SetTable.sizeAbove (SetTable.grown (L.length + 1)) ≤ 128 → (L.length + 1) * 5 < M * 3 → es1.size ≤ t1.mask →
        wpAny (model P w) A (setRelay a (SetTable.grown (L.length + 1))) (fun _ s' => wpAny (model P w) A (pure true) Q E s') E { s with heap := h1 } := by
      intro M m1 m2 m3 m4 m5
      refine nrelay (s := { s with heap := h1 }) ho1 ex1 rfl rows1 (by have := tab1.sz; rw [List.length_map] at this; omega) tab1.dm m5 nd1 key1 plain1 led1 (by omega) m1 m2 m3 (by rw [len1]; exact m4) ?_
      intro h2 L2 es2 ep2 t2 sb2 R2 pm2
      exact wpAny_pure (hq true h2 L2 es2 ep2 t2 (sb.trans sb2) R2 (.inr ⟨away, pm2.trans pm⟩))
    rcases R.tab.mok with e | e | e
    · have e2 : L.length = 4 := by rw [p4, e] at f2; rw [e] at rm; omega
      exact again 31 (by rw [e2, size_20]) (.inr (.inl rfl)) (by rw [e2, size_20]; decide) (by omega) (by rw [size1, len1, p4, e]; omega)
    · have e2 : L.length = 18 := by rw [p4, e] at f2; rw [e] at rm; omega
      exact again 127 (by rw [e2, size_76]) (.inr (.inr rfl)) (by rw [e2, size_76]; decide) (by omega) (by rw [size1, len1, p4, e]; omega)
    · exfalso
      rw [p4, e] at f2
      omega
  · first
      | refine wp_if_neg (by simp [full]) ?_
      | (refine wpAny_bind ?_; refine wp_if_neg (by simp [full]) ?_; refine wpAny_pure ?_)
    refine wpAny_pure (hq true h1 L1 es1 (ep + 1) t1 sb ⟨⟨_, ho1, ex1, rfl⟩, rows1, tab1, nd1, key1, plain1, led1, ?_, by omega⟩ (.inr ⟨away, pm⟩))
    unfold SetTable.tooFull at full
    rw [decide_eq_true_eq, p9, List.length_map] at full
    rw [len1]
    omega
/-- the void set -/
theorem nset_void {h : Heap} (ho : h.get? a = some { cls := .type "set", dict := none, data := .set #[] 0 (.fresh 0 0 (!w.params.followText "set-order")) }) : NSet w h a [] #[] 0 (.fresh 0 0 (!w.params.followText "set-order")) := by
  have tb : TabOk (.fresh 0 0 (!w.params.followText "set-order")) (([] : List (Addr × NestedKey)).map fun p => p.2.hash w) := ⟨List.Pairwise.nil, rfl, rfl, Or.inl rfl, fun x hx => (by cases hx), fun i h j hi => by simp at hi⟩
  have ld : w.params.followText "set-order" = true ∨ (SetTable.fresh 0 0 (!w.params.followText "set-order")).led = true := by
    cases e : w.params.followText "set-order" with
    | true => exact Or.inl rfl
    | false => exact Or.inr rfl
  exact ⟨⟨_, ho, ⟨rfl, rfl, rfl⟩, rfl⟩, rfl, tb, List.nodup_nil, fun p hp => (by cases hp), rfl, ld, (by show 0 * 5 < 7 * 3; decide), (by show 0 < 64; decide)⟩
theorem NSet.at {h h' : Heap} (R : NSet w h a L es ep t) (e : ∀ o, h.get? a = some o → h'.get? a = some o) (k : ∀ p ∈ L, IsN h' p.2 p.1) : NSet w h' a L es ep t := by
  obtain ⟨o, ho, q⟩ := R.ob
  exact ⟨⟨o, e o ho, q⟩, R.rows, R.tab, R.nd, k, R.plain, R.led, R.room, R.few⟩
end

/-- what the set has of the first i -/
structure NGot (ks : List (Addr × NestedKey)) (i : Nat) (L : List (Addr × NestedKey)) : Prop where
  sub : ∀ p ∈ L, p ∈ ks.take i
  all : ∀ p ∈ ks.take i, p.2 ∈ L.map (·.2)
  len : L.length ≤ i
theorem NGot.next {ks L L' : List (Addr × NestedKey)} {i : Nat} {x : Addr × NestedKey} (g : NGot ks i L) (h : ks[i]? = some x) (c : x.2 ∈ L.map (·.2) ∧ L' = L ∨ x.2 ∉ L.map (·.2) ∧ L'.Perm (x :: L)) : NGot ks (i + 1) L' := by
  have e : ks.take (i + 1) = ks.take i ++ [x] := by rw [List.take_add_one, h]; rfl
  rcases c with ⟨hm, rfl⟩ | ⟨_, pm⟩
  · refine ⟨fun p hp => by rw [e]; exact List.mem_append_left _ (g.sub p hp), fun p hp => ?_, Nat.le_succ_of_le g.len⟩
    rw [e, List.mem_append, List.mem_singleton] at hp
    exact hp.elim (g.all p) fun z => z ▸ hm
  · refine ⟨fun p hp => ?_, fun p hp => ?_, by rw [pm.length_eq]; exact Nat.succ_le_succ g.len⟩
    · rw [e, List.mem_append, List.mem_singleton]
      exact (List.mem_cons.mp (pm.mem_iff.mp hp)).elim .inr fun z => .inl (g.sub p z)
    · rw [(pm.map (·.2)).mem_iff]
      rw [e, List.mem_append, List.mem_singleton] at hp
      exact hp.elim (fun z => List.mem_cons_of_mem _ (g.all p z)) fun z => z ▸ List.mem_cons_self
section
variable {P : Program} {w : World} {s : Shared} {A : Around} {E : Value → Shared → Prop}
/-- what is walked goes into the set at S -/
theorem nupdate {I : Addr} {fp wr : List Addr} {n : Nat} {Pv : Nat → Value → Prop} {St : Nat → Heap → Prop} {R : Result → Shared → Prop} (W : Walks P w A.in1 I fp wr n Pv St) {S : Addr} (hSf : S ∉ fp) {ks : List (Addr × NestedKey)} (hn : n = ks.length) (few : ks.length < 64)
    (hv : ∀ i v, Pv i v → ∃ p, ks[i]? = some p ∧ v = .ref p.1) {h0 : Heap} (hk : ∀ p ∈ ks, IsN h0 p.2 p.1) (hS0 : h0.get? S = none) (hw0 : ∀ b ∈ wr, h0.get? b = none) (hu : A.in1.units + 8 < cLine)
    (hR : ∀ h' tk L es ep t, NSet w h' S L es ep t → NGot ks ks.length L → (∀ b o, h0.get? b = some o → h'.get? b = some o) → R (.ok (.ret .none)) { s with heap := h', toks := tk }) :
    ∀ (k i : Nat) (h : Heap) (tk : Nat), n - i = k → i ≤ n → St i h → (∀ b o, h0.get? b = some o → h.get? b = some o) → (∃ L es ep t, NSet w h S L es ep t ∧ NGot ks i L) →
      codeAny (model P w) A (.builtin "set.update.loop" ⟨[.ref S, .ref I], []⟩) R { s with heap := h, toks := tk } := by
  have offW : S ∉ wr := fun z => hSf (W.sub S z)
  have old : ∀ {h h' : Heap}, (∀ b o, b ∉ wr → h.get? b = some o → h'.get? b = some o) → (∀ b o, h0.get? b = some o → h.get? b = some o) → ∀ b o, h0.get? b = some o → h'.get? b = some o := by
    intro h h' m q b o e
    refine m b o (fun z => ?_) (q b o e)
    rw [hw0 b z] at e
    cases e
  have keys : ∀ {h : Heap}, (∀ b o, h0.get? b = some o → h.get? b = some o) → ∀ p ∈ ks, IsN h p.2 p.1 := fun q p hp => (hk p hp).keep fun c o e _ => q c o e
  intro k
  induction k with
  | zero =>
    rintro i h tk e le st q ⟨L, es, ep, t, RS, g⟩
    obtain rfl : i = n := by omega
    refine codeAny_builtin F.entry_set_update_loop ?_
    rw [Around.under_plainId F.plain_set_update_loop _]
    show wpAny _ A.in1 (pyNext (.ref I) >>= _) _ _ _
    refine wpAny_bind (W.done { s with heap := h, toks := tk } _ _ st fun h' tk' m => ?_)
    have q' := old m q
    refine wpAny_pure (hR h' tk' L es ep t (RS.at (fun o e => m S o offW e) fun p hp => keys q' p (List.mem_of_mem_take (g.sub p hp))) (by rw [← hn]; exact g) q')
  | succ k ih =>
    rintro i h tk e le st q ⟨L, es, ep, t, RS, g⟩
    refine codeAny_builtin F.entry_set_update_loop ?_
    rw [Around.under_plainId F.plain_set_update_loop _]
    show wpAny _ A.in1 (pyNext (.ref I) >>= _) _ _ _
    refine wpAny_bind (W.item i { s with heap := h, toks := tk } _ _ (by omega) st fun v h' tk' pv st' m => ?_)
    obtain ⟨p, hp, rfl⟩ := hv i v pv
    have q' := old m q
    have RS' : NSet w h' S L es ep t := RS.at (fun o e => m S o offW e) fun p hp => keys q' p (List.mem_of_mem_take (g.sub p hp))
    have kp := keys q' p (List.mem_of_getElem? hp)
    show wpAny _ A.in1 (holding [Value.ref p.1] (setAdd S (.ref p.1)) >>= _) _ _ _
    refine wpAny_bind (wpAny_holding ?_)
    unfold setAdd
    refine wpAny_holding (wpAny_bind (pyHash_key p.2 _ A.in1 _ _ kp.is (by have := kp.dp; omega) ?_))
    refine nadd (s := { s with heap := h', toks := tk' + p.2.draws }) RS' kp hu (by have := g.len; omega) fun b h2 L' es' ep' t' sb RS2 c => ?_
    refine wpAny_pure ⟨plainId_quiet F.plain_set_update_loop _, ih (i + 1) h2 _ (by omega) (by omega) (W.frame _ _ _ st' fun b hb o e => (sb.2 b fun z => hSf (z ▸ hb)).trans e) (fun b o e => ?_) ⟨L', es', ep', t', RS2, g.next hp c⟩⟩
    refine (sb.2 b ?_).trans (q' b o e)
    rintro rfl
    rw [hS0] at e
    cases e
/-- a list or a tuple that set() walks -/
structure NSrc (h : Heap) (T : String) (l : Addr) (items : Array Value) : Prop where
  ob : ∃ o n, h.get? l = some o ∧ o.cls = .type T ∧ o.data = .seq items n
  kind : T = "list" ∨ T = "tuple"
theorem nset_init {l S : Addr} {T : String} {items : Array Value} {ks : List (Addr × NestedKey)} (hh : A.handled = none) (src : NSrc s.heap T l items) (hit : items.toList = ks.map fun p => Value.ref p.1) (hk : ∀ p ∈ ks, IsN s.heap p.2 p.1) (few : ks.length < 64) (hu : A.units + 32 < cLine)
    (hS : s.heap.get? S = some { cls := .type "set", dict := none, data := .set #[] 0 (.fresh 0 0 (!w.params.followText "set-order")) }) {R : PySem.Fin → Shared → Prop} {s0 : Heap} (h00 : ∀ b o, s0.get? b = some o → s.heap.get? b = some o) (hS0 : s0.get? S = none) (hk0 : ∀ p ∈ ks, IsN s0 p.2 p.1)
    (hq : ∀ h' tk L es ep t, NSet w h' S L es ep t → NGot ks ks.length L → (∀ b o, s0.get? b = some o → h'.get? b = some o) → R (.done (.ret .none)) { s with heap := h', toks := tk }) :
    wpAny (model P w) A (Builtin.«set.__init__» ⟨[.ref S, .ref l], []⟩) R E s := by
  obtain ⟨⟨o, n, ho, hc, hd⟩, hT⟩ := src
  have tS : s.TypeIs (.ref S) "set" := ⟨_, hS, rfl⟩
  have tl : s.TypeIs (.ref l) T := ⟨o, ho, hc⟩
  unfold Builtin.«set.__init__» noKeywords Builtin.Frozenset.updateFrom
  generalize hPI : pyIter = PI
  have neS : l ≠ S := by
    rintro rfl
    rw [hS] at ho
    cases ho
    cases hd
  have none_new : s0.get? s.heap.objs.size = none := by
    cases e : s0.get? s.heap.objs.size with
    | none => rfl
    | some u => exact absurd (Heap.lt_size (h00 _ _ e)) (Nat.lt_irrefl _)
  have newS : S ≠ s.heap.objs.size := Nat.ne_of_lt (Heap.lt_size hS)
  have newl : l ≠ s.heap.objs.size := Nat.ne_of_lt (Heap.lt_size ho)
  have vals : ∀ (i : Nat) (v : Value), items[i]? = some v → ∃ p, ks[i]? = some p ∧ v = .ref p.1 := by
    intro i v hv
    rw [← Array.getElem?_toList, hit, List.getElem?_map] at hv
    obtain ⟨p, hp, e⟩ := Option.map_eq_some_iff.mp hv
    exact ⟨p, hp, e.symm⟩
  have size : items.size = ks.length := by
    have := congrArg List.length hit
    simpa using this
  have fin : ∀ (cur : Obj) (fp : List Addr) (St : Nat → Heap → Prop), fp = [s.heap.objs.size, l] → Walks P w A.in1 s.heap.objs.size fp [s.heap.objs.size] items.size (fun i v => items[i]? = some v) St → St 0 (s.heap.push cur) →
      wpAny (model P w) A (do let _ ← runValue (Code.builtin "set.update.loop" ⟨[.ref S, .ref s.heap.objs.size], []⟩); pure ()) (fun _ s' => wpAny (model P w) A (ret Value.none) R E s') E { s with heap := s.heap.push cur } := by
    intro cur fp St efp W st
    refine wpAny_bind (wpAny_runValue ?_)
    refine nupdate (s := s) W (S := S) (by rw [efp]; simp [newS, Ne.symm neS]) size few vals (h0 := s0) hk0 hS0 (fun b hb => by rw [List.mem_singleton.mp hb]; exact none_new) (by show A.units + 1 + 8 < cLine; omega) ?_ (items.size - 0) 0 (s.heap.push cur) s.toks rfl (Nat.zero_le _) st (fun b o e => Heap.get?_push_of_some _ (h00 b o e)) ⟨[], #[], 0, _, nset_void (Heap.get?_push_of_some _ hS), fun p hp => (by cases hp), fun p hp => by simp at hp, Nat.le_refl _⟩
    intro h' tk L es ep t q1 q2 q3
    exact wpAny_pure (wpAny_pure (hq h' tk L es ep t q1 q2 q3))
  rcases hT with rfl | rfl
  · have e1 := PySem.F.sub_list_set
    have e2 := PySem.F.sub_list_frozenset
    have e3 : (Value.type "list" == Value.type "dict") = false := by decide
    wp_walk using wpAny_typeOf tS, wpAny_typeOf tl
    subst hPI
    have hl : s.heap.IsList l items := ⟨o, ho, hc, n, hd⟩
    exact wpAny_pyIter_list hl (fin _ _ _ rfl (Walks.list (A := A.in1) hh _ l newl items) ⟨⟨_, Heap.get?_push_size _ rfl, rfl, rfl⟩, hl.push _⟩)
  · have e1 := PySem.F.sub_tuple_set
    have e2 := PySem.F.sub_tuple_frozenset
    have e3 : (Value.type "tuple" == Value.type "dict") = false := by decide
    wp_walk using wpAny_typeOf tS, wpAny_typeOf tl
    subst hPI
    have hl : s.heap.IsTuple l items := ⟨o, ho, hc, n, hd⟩
    exact wpAny_pyIter_tuple hl (fin _ _ _ rfl (Walks.tuple (A := A.in1) hh _ l newl items) ⟨⟨_, Heap.get?_push_size _ rfl, rfl, rfl⟩, hl.push _⟩)
/-- set(xs), xs a list or a tuple of tuples -/
theorem call_setN {l : Addr} {T : String} {items : Array Value} {ks : List (Addr × NestedKey)} {Q : Value → Shared → Prop} (hh : A.handled = none) (src : NSrc s.heap T l items) (hit : items.toList = ks.map fun p => Value.ref p.1) (hk : ∀ p ∈ ks, IsN s.heap p.2 p.1) (few : ks.length < 64) (hu : A.units + 64 < cLine)
    (h : ∀ (h' : Heap) (tk : Nat) L es ep t, NSet w h' s.heap.objs.size L es ep t → NGot ks ks.length L → (∀ b o, s.heap.get? b = some o → h'.get? b = some o) → Q (.ref s.heap.objs.size) { s with heap := h', toks := tk }) :
    wpAny (model P w) A (call (.type "set") [.ref l]) Q E s := by
  obtain ⟨c, tl, hmro⟩ := F.called_set.mro
  have c1 := F.called_set.made
  have c2 := F.called_set.sub
  have c3 := F.called_set.notType
  have c4 := F.called_set.canCreate
  have c5 := F.typeCall_set_1 (.ref l)
  refine wpAny_call (codeAny_of_tree ?_)
  show wpAny _ _ (callAny (.type "set") _) _ _ _
  refine wpAny_pure ⟨Code.quiet_builtin _ (by decide +kernel), codeAny_builtin F.entry_type_call ?_⟩
  rw [Around.under_plain (weight_type_call_type "set" [.ref l] []) rfl]
  repeat (any_goals (first | assumption | wp_step))
  refine codeAny_mono (code_set_led1 (.ref l) (E := E) (Q₁ := fun v s1 => v = .ref s.heap.objs.size ∧ s1 = { s with heap := s.heap.push { cls := .type "set", dict := none, data := .set #[] 0 (.fresh 0 0 (!w.params.followText "set-order")) } }) (And.intro rfl rfl)) ?_
  rintro (e | fl) s1 hr
  · exact hr
  cases fl with
  | ret v => ?_
  | _ => exact hr.elim
  obtain ⟨rfl, rfl⟩ := hr
  have atS : (s.heap.push { cls := .type "set", dict := none, data := .set #[] 0 (.fresh 0 0 (!w.params.followText "set-order")) }).get? s.heap.objs.size = some { cls := .type "set", dict := none, data := .set #[] 0 (.fresh 0 0 (!w.params.followText "set-order")) } := Heap.get?_push_size _ rfl
  have tyS : Shared.TypeIs { s with heap := s.heap.push { cls := .type "set", dict := none, data := .set #[] 0 (.fresh 0 0 (!w.params.followText "set-order")) } } (.ref s.heap.objs.size) "set" := ⟨_, atS, rfl⟩
  have c6 := F.called_set.init.lookup
  have c7 := F.called_set.init.bind (.ref s.heap.objs.size)
  repeat (any_goals (first | assumption | wp_step))
  have void : s.heap.get? s.heap.objs.size = none := by
    cases e : s.heap.get? s.heap.objs.size with
    | none => rfl
    | some u => exact absurd (Heap.lt_size e) (Nat.lt_irrefl _)
  refine codeAny_mono (codeAny_call_builtin (R := wants (fun r s2 => r = .none ∧ ∃ h' tk L es ep t, s2 = { s with heap := h', toks := tk } ∧ NSet w h' s.heap.objs.size L es ep t ∧ NGot ks ks.length L ∧ ∀ b o, s.heap.get? b = some o → h'.get? b = some o) E) F.called_set.init.plain F.entry_set_init (check_set_init_1 tyS ?_)) ?_
  · obtain ⟨⟨o, n, ho, hc, hd⟩, hT⟩ := src
    refine nset_init (w := w) (A := A.in1.in1) (s := { s with heap := s.heap.push { cls := .type "set", dict := none, data := .set #[] 0 (.fresh 0 0 (!w.params.followText "set-order")) } }) (ks := ks) (s0 := s.heap) hh ⟨⟨o, n, Heap.get?_push_of_some _ ho, hc, hd⟩, hT⟩ hit (fun p hp => (hk p hp).keep fun c o e _ => Heap.get?_push_of_some _ e) few (by show A.units + 1 + 1 + 32 < cLine; omega) atS (fun b o e => Heap.get?_push_of_some _ e) void hk ?_
    intro h' tk L es ep t q1 q2 q3
    exact ⟨rfl, h', tk, L, es, ep, t, rfl, q1, q2, q3⟩
  · rintro (e | fl) s2 hr
    · exact hr
    cases fl with
    | ret v => ?_
    | _ => exact hr.elim
    obtain ⟨rfl, h', tk, L, es, ep, t, rfl, q1, q2, q3⟩ := hr
    repeat (any_goals (first | assumption | wp_step))
    exact h h' tk L es ep t q1 q2 q3
end
/-! ### the rules -/
/-- the set at a, told without its members' tuples -/
def NSetO (w : World) (a : Addr) (L : List (Addr × NestedKey)) : HO := .ext fun h => ∃ (es : Array (Int × Value)) (ep : Nat) (t : SetTable), (∃ o, h.get? a = some o ∧ o.ExactSet ∧ o.data = .set es ep t) ∧ t.fits es.size = true ∧ es.size < 64 ∧ Ris t.place.toList ∧ (w.params.followText "set-order" = true ∨ t.led = true) ∧ es.toList.map (·.2) = L.map fun p => Value.ref p.1
theorem NSet.told {P : Program} {w : World} {H : Hp} {h : Heap} {a : Addr} {L : List (Addr × NestedKey)} {es : Array (Int × Value)} {ep : Nat} {t : SetTable} (R : NSet w h a L es ep t) : ObjOk P w H h a (NSetO w a L) := by
  refine ⟨⟨es, ep, t, R.ob, fits_of R.tab.dm (by have := R.tab.sz; have := nrows_size R.rows; rw [List.length_map] at *; omega) (by have := R.room; have := nrows_size R.rows; omega), ?_, R.tab.ris, R.led, ?_⟩, ?_, ?_⟩
  · rw [nrows_size R.rows]
    exact R.few
  · rw [R.rows]
    unfold nrows
    rw [List.map_map]
    rfl
  · obtain ⟨o, ho, _⟩ := R.ob
    exact ⟨o, ho⟩
  · rintro h1 h2 ⟨es, ep, t, ⟨o, ho, q⟩, r⟩ k
    exact ⟨es, ep, t, ⟨o, k o ho, q⟩, r⟩
section
variable {X : Cx}
theorem vals_ref_map (L : List (Addr × NestedKey)) : Vals (L.map fun p => V.ref p.1) (L.map fun p => Value.ref p.1) := by
  induction L with
  | nil => exact .nil
  | cons p L ih => exact .cons rfl ih
mutual
/-- the data of a key -/
def nkD : NestedKey → PyData
  | .none => .none
  | .num i => .int i
  | .text x => .str x
  | .tup ks => .tuple (nkDs ks)
def nkDs : List NestedKey → List PyData
  | [] => []
  | k :: ks => nkD k :: nkDs ks
end
mutual
theorem nk_is {pins : List (Addr × Obj)} {σ : L2.St} {H : Hp} {s : Shared} (I : Inv X pins σ H s) : ∀ (k : NestedKey) (v : V) (u : Value), Nums k → Dp X.K H v (nkD k) → RelV v u → NestedIs s.heap k u
  | .num i, _, _, _, d, r => by
    cases d
    obtain ⟨t, rfl⟩ := r
    exact .int i t
  | .tup ks, _, _, z, d, r => by
    cases d with
    | tup h a =>
      cases r
      obtain ⟨its, rv, ⟨o, ho, hc, n, hd⟩, _⟩ := I.tuple h
      refine .tup ho hc hd ?_
      rw [List.toList_toArray]
      exact nk_all I ks _ _ z a rv
  | .none, _, _, z, _, _ => z.elim
  | .text _, _, _, z, _, _ => z.elim
theorem nk_all {pins : List (Addr × Obj)} {σ : L2.St} {H : Hp} {s : Shared} (I : Inv X pins σ H s) : ∀ (ks : List NestedKey) (vs : List V) (us : List Value), NumsAll ks → DpAll X.K H vs (nkDs ks) → Vals vs us → NestedAll s.heap ks us
  | [], _, _, _, d, r => by
    cases d
    cases r
    exact .nil
  | k :: ks, _, _, z, d, r => by
    cases d with
    | cons d1 d2 =>
      cases r with
      | cons r1 r2 => exact .cons (nk_is I k _ _ z.1 d1 r1) (nk_all I ks _ _ z.2 d2 r2)
end
/-- set(xs), xs a list or a tuple of fewer than 64 tuples of numbers (nested or not): ks the addresses and the keys -/
def rSetN (K : PySem.W.Frag) (w : World) : List V → Hp → VK → Prop := fun vs H Q => ∃ (l : Addr) (ks : List (Addr × NestedKey)), vs = [.ref l] ∧ (SqL K H l (ks.map fun p => V.ref p.1) ∨ SqT K H l (ks.map fun p => V.ref p.1)) ∧ (∀ p ∈ ks, Dp K H (.ref p.1) (nkD p.2) ∧ Nums p.2 ∧ p.2.depth ≤ 8 ∧ ∃ k', p.2 = .tup k') ∧ ks.length < 64 ∧
  ∀ a L, H a = none → (L.map (·.2)).Nodup → (∀ p ∈ L, p ∈ ks) → (∀ p ∈ ks, p.2 ∈ L.map (·.2)) → Q (.ref a) (upd H a (NSetO w a L))
theorem cr_setN (hc : X.calm = true) (hu : X.A.units + 128 < cLine) : CallR X (.type "set") (rSetN X.K X.w) := by
  intro pins s σ H vs us Q I r h
  obtain ⟨l, ks, rfl, hl, hk, few, q⟩ := h
  obtain ⟨u, rfl, rx⟩ := r.one
  cases rx
  have isn : ∀ p ∈ ks, IsN s.heap p.2 p.1 := fun p hp => ⟨nk_is I p.2 (.ref p.1) (.ref p.1) (hk p hp).2.1 (hk p hp).1 rfl, (hk p hp).2.2.1, (hk p hp).2.1⟩
  have refs : ∀ {us : List Value}, Vals (ks.map fun p => V.ref p.1) us → us = ks.map fun p => Value.ref p.1 := fun r => by
    have : ∀ (ks : List (Addr × NestedKey)) (us : List Value), Vals (ks.map fun p => V.ref p.1) us → us = ks.map fun p => Value.ref p.1 := by
      intro ks
      induction ks with
      | nil => intro us r; cases r; rfl
      | cons p ks ih =>
        intro us r
        cases r with
        | cons h t => rw [ih _ t, List.map_cons]; cases h; rfl
    exact this ks _ r
  have fin : ∀ {T : String} {items : Array Value}, NSrc s.heap T l items → items.toList = (ks.map fun p => Value.ref p.1) → wpAny (model X.prog X.w) X.A (call (.type "set") [.ref l]) (EP X pins σ Q) X.xe s := by
    intro T items src hit
    refine call_setN (I.ok.hd hc) src hit isn few (by omega) fun h' tk L es ep t q1 q2 q3 => ?_
    refine ⟨.ref s.heap.objs.size, _, I.laid (t' := tk) q3 (Nat.le_refl _) (NSet.told (P := X.prog) q1), rfl, q s.heap.objs.size L (I.hok.fresh (Nat.le_refl _)) q1.nd (fun p hp => List.mem_of_mem_take (q2.sub p hp)) fun p hp => q2.all p (by rw [List.take_length]; exact hp)⟩
  rcases hl with hl | hl
  · obtain ⟨its, rv, ⟨o, n, ho, h1, h2, h3⟩, hz⟩ := I.list hl
    exact fin (T := "list") ⟨⟨o, n, ho, h1, h3⟩, .inl rfl⟩ (by rw [List.toList_toArray]; exact refs rv)
  · obtain ⟨its, rv, ⟨o, ho, h1, n, h3⟩, hz⟩ := I.tuple hl
    exact fin (T := "tuple") ⟨⟨o, n, ho, h1, h3⟩, .inr rfl⟩ (by rw [List.toList_toArray]; exact refs rv)
/-- what a set of tuples hands out: its members, in some order -/
def cSetN (w : World) : V → Hp → (List V → Hp → Prop) → Prop := fun x H Q => ∃ a L, x = .ref a ∧ H a = some (NSetO w a L) ∧ ∀ L' : List (Addr × NestedKey), L'.Perm L → Q (L'.map fun p => V.ref p.1) H
theorem perm_map_inv {α β : Type} (f : α → β) : ∀ {l : List α} {m : List β}, m.Perm (l.map f) → ∃ l' : List α, m = l'.map f ∧ l'.Perm l := by
  intro l m h
  generalize e : l.map f = k at h
  induction h generalizing l with
  | nil =>
    have : l = [] := by cases l with
      | nil => rfl
      | cons _ _ => cases e
    subst this
    exact ⟨[], rfl, .nil⟩
  | cons x h ih =>
    cases l with
    | nil => cases e
    | cons a l =>
      injection e with e1 e2
      obtain ⟨l', q1, q2⟩ := ih e2
      exact ⟨a :: l', by rw [q1, ← e1]; rfl, q2.cons a⟩
  | swap x y r =>
    match l, e with
    | a :: b :: l, e =>
      injection e with e1 e2
      injection e2 with e2 e3
      exact ⟨b :: a :: l, by rw [← e1, ← e2, ← e3]; rfl, .swap a b l⟩
  | trans h1 h2 ih1 ih2 =>
    obtain ⟨l2, q1, q2⟩ := ih2 e
    obtain ⟨l1, q3, q4⟩ := ih1 q1.symm
    exact ⟨l1, q3, q4.trans q2⟩
theorem cl_setN (hc : X.calm = true) : ClR X (cSetN X.w) := by
  intro pins s σ H x u Q E I rx h
  obtain ⟨a, L, rfl, ha, q⟩ := h
  cases rx
  obtain ⟨es, ep, t, ⟨o, ho, hex, hd⟩, hf, few, ris, led, vals⟩ := (I.hok a _ ha).1
  refine collect_set (A := X.A.in1) (I.ok.hd hc) ⟨o, ho, hex.1, hd⟩ hf (by unfold scanBound; omega) ris led fun s1 vs k1 hz g1 o1 pm => ?_
  rw [vals] at pm
  obtain ⟨L', rfl, pm'⟩ := perm_map_inv _ pm
  have J : Inv X pins σ H { s with heap := s1.heap, gens := s1.gens, drawn := s1.drawn, toks := s1.toks } :=
    I.call (ch := []) (Un.kept k1) (I.hok.kept k1) (by rw [g1]; exact I.bare) (fun _ z => nomatch z)
  have e : s1 = { s with heap := s1.heap, gens := s1.gens, drawn := s1.drawn, toks := s1.toks } := by
    cases s1
    cases s
    cases o1
    rfl
  refine ⟨?_, L'.map (fun p => V.ref p.1), H, by rw [e]; exact J, vals_ref_map L', q L' pm'⟩
  have e1 : es.size = L.length := by
    have := congrArg List.length vals
    simpa using this
  rw [List.length_map, pm'.length_eq, sizeLine_eq]
  omega
end
end MX
end

section
set_option Elab.async false
set_option linter.all false
set_option maxRecDepth 100000
set_option maxHeartbeats 4000000
/-! set(xs) of a list of numbers. -/
namespace MX
open PySem PySem.Spec PyProof.Rows L2
section
variable {P : Program} {w : World} {s : Shared} {A : Around} {E : Value → Shared → Prop}
/-- the first i numbers are in -/
def IGot (w : World) (h : Heap) (S : Addr) (ns : List Int) (i : Nat) : Prop := ∃ c, c ≤ i ∧ SetR w h S (fun j => decide (j ∈ ns.take i)) c
theorem iupdate {I : Addr} {fp wr : List Addr} {n : Nat} {Pv : Nat → Value → Prop} {St : Nat → Heap → Prop} {R : Result → Shared → Prop} (W : Walks P w A.in1 I fp wr n Pv St) {S : Addr} (hSf : S ∉ fp) {ns : List Int} (hn : n = ns.length) (few : ns.length < 64)
    (hv : ∀ i v, Pv i v → ∃ k t, ns[i]? = some k ∧ v = .int k t) {h0 : Heap} (hS0 : h0.get? S = none) (hw0 : ∀ b ∈ wr, h0.get? b = none)
    (hR : ∀ h' tk, IGot w h' S ns ns.length → (∀ b o, h0.get? b = some o → h'.get? b = some o) → R (.ok (.ret .none)) { s with heap := h', toks := tk }) :
    ∀ (k i : Nat) (h : Heap) (tk : Nat), n - i = k → i ≤ n → St i h → (∀ b o, h0.get? b = some o → h.get? b = some o) → IGot w h S ns i →
      codeAny (model P w) A (.builtin "set.update.loop" ⟨[.ref S, .ref I], []⟩) R { s with heap := h, toks := tk } := by
  have offW : S ∉ wr := fun z => hSf (W.sub S z)
  have old : ∀ {h h' : Heap}, (∀ b o, b ∉ wr → h.get? b = some o → h'.get? b = some o) → (∀ b o, h0.get? b = some o → h.get? b = some o) → ∀ b o, h0.get? b = some o → h'.get? b = some o := by
    intro h h' m q b o e
    refine m b o (fun z => ?_) (q b o e)
    rw [hw0 b z] at e
    cases e
  intro k
  induction k with
  | zero =>
    rintro i h tk e le st q ⟨c, hc, RS⟩
    obtain rfl : i = n := by omega
    refine codeAny_builtin F.entry_set_update_loop ?_
    rw [Around.under_plainId F.plain_set_update_loop _]
    show wpAny _ A.in1 (pyNext (.ref I) >>= _) _ _ _
    refine wpAny_bind (W.done { s with heap := h, toks := tk } _ _ st fun h' tk' m => ?_)
    exact wpAny_pure (hR h' tk' (by rw [← hn]; exact ⟨c, hc, RS.at fun o e => m S o offW e⟩) (old m q))
  | succ k ih =>
    rintro i h tk e le st q ⟨c, hc, RS⟩
    refine codeAny_builtin F.entry_set_update_loop ?_
    rw [Around.under_plainId F.plain_set_update_loop _]
    show wpAny _ A.in1 (pyNext (.ref I) >>= _) _ _ _
    refine wpAny_bind (W.item i { s with heap := h, toks := tk } _ _ (by omega) st fun v h' tk' pv st' m => ?_)
    obtain ⟨z, t, hz, rfl⟩ := hv i v pv
    have q' := old m q
    have RS' : SetR w h' S (fun j => decide (j ∈ ns.take i)) c := RS.at fun o e => m S o offW e
    show wpAny _ A.in1 (holding [Value.int z t] (setAdd S (.int z t)) >>= _) _ _ _
    refine wpAny_bind (wpAny_holding ?_)
    unfold setAdd
    refine wpAny_holding (wpAny_bind ((intKind P w).pyHash (intKind_is _ _ z t) ?_))
    refine setR_add_hashed (s := { s with heap := h', toks := tk' + 1 }) RS' (by unfold scanBound; omega) fun h2 sb R2 => ?_
    refine wpAny_pure ⟨plainId_quiet F.plain_set_update_loop _, ih (i + 1) h2 _ (by omega) (by omega) (W.frame _ _ _ st' fun b hb o e => (sb.2 b fun z => hSf (z ▸ hb)).trans e) (fun b o e => ?_) ⟨_, ?_, R2.congr fun j => ?_⟩⟩
    · refine (sb.2 b ?_).trans (q' b o e)
      rintro rfl
      rw [hS0] at e
      cases e
    · split <;> omega
    · rw [List.take_add_one, hz]
      simp only [Option.toList, List.mem_append, List.mem_singleton]
      exact Bool.decide_or _ _
theorem iset_init {l S : Addr} {T : String} {items : Array Value} {ns : List Int} (hh : A.handled = none) (src : NSrc s.heap T l items) (hT : T = "list") (hit : IntsAre items.toList ns) (few : ns.length < 64) (hu : A.units + 32 < cLine)
    (hS : s.heap.get? S = some { cls := .type "set", dict := none, data := .set #[] 0 (.fresh 0 0 (!w.params.followText "set-order")) }) {R : PySem.Fin → Shared → Prop} {s0 : Heap} (h00 : ∀ b o, s0.get? b = some o → s.heap.get? b = some o) (hS0 : s0.get? S = none)
    (hq : ∀ h' tk, IGot w h' S ns ns.length → (∀ b o, s0.get? b = some o → h'.get? b = some o) → R (.done (.ret .none)) { s with heap := h', toks := tk }) :
    wpAny (model P w) A (Builtin.«set.__init__» ⟨[.ref S, .ref l], []⟩) R E s := by
  subst hT
  obtain ⟨⟨o, n, ho, hc, hd⟩, _⟩ := src
  have tS : s.TypeIs (.ref S) "set" := ⟨_, hS, rfl⟩
  have tl : s.TypeIs (.ref l) "list" := ⟨o, ho, hc⟩
  unfold Builtin.«set.__init__» noKeywords Builtin.Frozenset.updateFrom
  generalize hPI : pyIter = PI
  have neS : l ≠ S := by
    rintro rfl
    rw [hS] at ho
    cases ho
    cases hd
  have none_new : s0.get? s.heap.objs.size = none := by
    cases e : s0.get? s.heap.objs.size with
    | none => rfl
    | some u => exact absurd (Heap.lt_size (h00 _ _ e)) (Nat.lt_irrefl _)
  have newS : S ≠ s.heap.objs.size := Nat.ne_of_lt (Heap.lt_size hS)
  have newl : l ≠ s.heap.objs.size := Nat.ne_of_lt (Heap.lt_size ho)
  have size : items.size = ns.length := by
    have := IntsAre.length hit
    rw [Array.length_toList] at this
    exact this
  have vals : ∀ (i : Nat) (v : Value), items[i]? = some v → ∃ k t, ns[i]? = some k ∧ v = .int k t := by
    intro i v hv
    have lt : i < ns.length := by
      rw [← size]
      exact (Array.getElem?_eq_some_iff.mp hv).1
    obtain ⟨t, ht⟩ := hit.get i _ (List.getElem?_eq_getElem lt)
    rw [← Array.getElem?_toList, ht] at hv
    cases hv
    exact ⟨_, t, List.getElem?_eq_getElem lt, rfl⟩
  have e1 := PySem.F.sub_list_set
  have e2 := PySem.F.sub_list_frozenset
  have e3 : (Value.type "list" == Value.type "dict") = false := by decide
  wp_walk using wpAny_typeOf tS, wpAny_typeOf tl
  subst hPI
  have hl : s.heap.IsList l items := ⟨o, ho, hc, n, hd⟩
  refine wpAny_pyIter_list hl ?_
  refine wpAny_bind (wpAny_runValue ?_)
  refine iupdate (s := s) (Walks.list (A := A.in1) hh _ l newl items) (S := S) (by simp [newS, Ne.symm neS]) size few vals (h0 := s0) hS0 (fun b hb => by rw [List.mem_singleton.mp hb]; exact none_new) ?_ (items.size - 0) 0 _ s.toks rfl (Nat.zero_le _) ⟨⟨_, Heap.get?_push_size _ rfl, rfl, rfl⟩, hl.push _⟩ (fun b o e => Heap.get?_push_of_some _ (h00 b o e)) ⟨0, Nat.le_refl _, setR_new_at (Heap.get?_push_of_some _ hS)⟩
  intro h' tk q1 q2
  exact wpAny_pure (wpAny_pure (hq h' tk q1 q2))
/-- set(xs), xs a list of numbers -/
theorem call_setI {l : Addr} {items : Array Value} {ns : List Int} {Q : Value → Shared → Prop} (hh : A.handled = none) (src : NSrc s.heap "list" l items) (hit : IntsAre items.toList ns) (few : ns.length < 64) (hu : A.units + 64 < cLine)
    (h : ∀ (h' : Heap) (tk : Nat), IGot w h' s.heap.objs.size ns ns.length → (∀ b o, s.heap.get? b = some o → h'.get? b = some o) → Q (.ref s.heap.objs.size) { s with heap := h', toks := tk }) :
    wpAny (model P w) A (call (.type "set") [.ref l]) Q E s := by
  obtain ⟨c, tl, hmro⟩ := F.called_set.mro
  have c1 := F.called_set.made
  have c2 := F.called_set.sub
  have c3 := F.called_set.notType
  have c4 := F.called_set.canCreate
  have c5 := F.typeCall_set_1 (.ref l)
  refine wpAny_call (codeAny_of_tree ?_)
  show wpAny _ _ (callAny (.type "set") _) _ _ _
  refine wpAny_pure ⟨Code.quiet_builtin _ (by decide +kernel), codeAny_builtin F.entry_type_call ?_⟩
  rw [Around.under_plain (weight_type_call_type "set" [.ref l] []) rfl]
  repeat (any_goals (first | assumption | wp_step))
  refine codeAny_mono (code_set_led1 (.ref l) (E := E) (Q₁ := fun v s1 => v = .ref s.heap.objs.size ∧ s1 = { s with heap := s.heap.push { cls := .type "set", dict := none, data := .set #[] 0 (.fresh 0 0 (!w.params.followText "set-order")) } }) (And.intro rfl rfl)) ?_
  rintro (e | fl) s1 hr
  · exact hr
  cases fl with
  | ret v => ?_
  | _ => exact hr.elim
  obtain ⟨rfl, rfl⟩ := hr
  have atS : (s.heap.push { cls := .type "set", dict := none, data := .set #[] 0 (.fresh 0 0 (!w.params.followText "set-order")) }).get? s.heap.objs.size = some { cls := .type "set", dict := none, data := .set #[] 0 (.fresh 0 0 (!w.params.followText "set-order")) } := Heap.get?_push_size _ rfl
  have tyS : Shared.TypeIs { s with heap := s.heap.push { cls := .type "set", dict := none, data := .set #[] 0 (.fresh 0 0 (!w.params.followText "set-order")) } } (.ref s.heap.objs.size) "set" := ⟨_, atS, rfl⟩
  have c6 := F.called_set.init.lookup
  have c7 := F.called_set.init.bind (.ref s.heap.objs.size)
  repeat (any_goals (first | assumption | wp_step))
  have void : s.heap.get? s.heap.objs.size = none := by
    cases e : s.heap.get? s.heap.objs.size with
    | none => rfl
    | some u => exact absurd (Heap.lt_size e) (Nat.lt_irrefl _)
  refine codeAny_mono (codeAny_call_builtin (R := wants (fun r s2 => r = .none ∧ ∃ h' tk, s2 = { s with heap := h', toks := tk } ∧ IGot w h' s.heap.objs.size ns ns.length ∧ ∀ b o, s.heap.get? b = some o → h'.get? b = some o) E) F.called_set.init.plain F.entry_set_init (check_set_init_1 tyS ?_)) ?_
  · obtain ⟨⟨o, n, ho, hc, hd⟩, hT⟩ := src
    refine iset_init (w := w) (A := A.in1.in1) (s := { s with heap := s.heap.push { cls := .type "set", dict := none, data := .set #[] 0 (.fresh 0 0 (!w.params.followText "set-order")) } }) (ns := ns) (s0 := s.heap) hh ⟨⟨o, n, Heap.get?_push_of_some _ ho, hc, hd⟩, hT⟩ rfl hit few (by show A.units + 1 + 1 + 32 < cLine; omega) atS (fun b o e => Heap.get?_push_of_some _ e) void ?_
    intro h' tk q1 q2
    exact ⟨rfl, h', tk, rfl, q1, q2⟩
  · rintro (e | fl) s2 hr
    · exact hr
    cases fl with
    | ret v => ?_
    | _ => exact hr.elim
    obtain ⟨rfl, h', tk, rfl, q1, q2⟩ := hr
    repeat (any_goals (first | assumption | wp_step))
    exact h h' tk q1 q2
end
section
variable {X : Cx}
/-- set(xs), xs a list of fewer than 64 numbers -/
def rSetI (K : PySem.W.Frag) (w : World) : List V → Hp → VK → Prop := fun vs H Q => ∃ (l : Addr) (ns : List Int), vs = [.ref l] ∧ SqL K H l (ns.map V.int) ∧ ns.length < 64 ∧ ∀ a c, H a = none → c ≤ ns.length → Q (.ref a) (upd H a (SetO w a (fun j => decide (j ∈ ns)) c))
theorem cr_setI (hc : X.calm = true) (hu : X.A.units + 128 < cLine) : CallR X (.type "set") (rSetI X.K X.w) := by
  intro pins s σ H vs us Q I r h
  obtain ⟨l, ns, rfl, hl, few, q⟩ := h
  obtain ⟨u, rfl, rx⟩ := r.one
  cases rx
  obtain ⟨its, rv, ⟨o, n, ho, h1, h2, h3⟩, hz⟩ := I.list hl
  refine call_setI (I.ok.hd hc) ⟨⟨o, n, ho, h1, h3⟩, .inl rfl⟩ (by simpa using rv.ints) few (by omega) fun h' tk q1 q3 => ?_
  obtain ⟨c, hc2, RS⟩ := q1
  rw [List.take_length] at RS
  exact ⟨.ref s.heap.objs.size, _, I.laid (t' := tk) q3 (Nat.le_refl _) (setO_new (P := X.prog) RS), rfl, q s.heap.objs.size c (I.hok.fresh (Nat.le_refl _)) hc2⟩
theorem cr_setIK (K : PySem.W.Frag) (w : World) (hK : X.K = K := by rfl) (hw : X.w = w := by rfl) (hc : X.calm = true) (hu : X.A.units + 128 < cLine) : CallR X (.type "set") (rSetI K w) := by
  subst hK hw
  exact cr_setI hc hu
theorem cr_sortedSetK (w : World) (hw : X.w = w := by rfl) (hc : X.calm = true) : CallR X (.builtin "sorted") (rSortedSet w) := by
  subst hw
  exact cr_sortedSet hc
end
end MX
end

section
set_option Elab.async false
set_option linter.all false
set_option maxRecDepth 100000
set_option maxHeartbeats 4000000
/-! small rules that the layer has not -/
namespace MX
open PySem PySem.Spec PySem.Calls PyProof.Rows PySem.W L2
section
variable {X : Cx}
/-! ### walked: d.keys(), its keys tuples (the dict is locked) -/
def iKeysMT (td : TE) : TI := fun σ H R => td σ H fun x H1 => ∃ d o kvs, x = .ref d ∧ H1 d = some (.frz o (.dT kvs)) ∧ R (Itkt d o kvs) H1
theorem pi_keysMT {tg e : Expr} {td : TE} {apos cpos : Pos} (he : PE X e td) (hbase : attributeBase e "keys" X.env (eval e X.env) = eval e X.env := by rfl) (hline : (apos.endLine == cpos.line) = true := by rfl) : PI X tg (.Call (.Attribute e "keys" apos) [] [] cpos) (iKeysMT td) := by
  constructor
  intro pins s σ H R I h
  refine wpAny_Call_method (T := "dict") (id := "dict.keys") hbase rfl hline PySem.F.plainAttrs_dict PySem.F.slot_dict_keys PySem.F.type_dict_keys (thn (he.run pins s σ H _ I h) ?_)
  rintro u s1 ⟨_, H1, I1, rx, d, o, kvs, rfl, hd, q⟩
  obtain rfl : u = Value.ref d := rx
  obtain ⟨h1, h2, h3, es, ep, h4, h5, _⟩ := I1.frzT hd
  have ty : s1.TypeIs (.ref d) "dict" := ⟨o, h2, h3.1⟩
  refine ⟨ty, fun a ea => ?_, ?_⟩
  · cases ea
    exact ⟨o, h2, h3.2.1⟩
  have I2 : Inv X pins σ H1 { s1 with heap := s1.heap.push { cls := .type "dict_keys", data := .fields #[.ref d] } } := I1.kept (t' := s1.toks) fun b ob e => Heap.get?_push_of_some _ e
  show wpAny _ _ (callWith cpos (.builtin "dict.keys") [.ref d] [] []) _ X.xe s1
  refine method_meetsIn PySem.F.slot_dict_keys PySem.F.entry_dict_keys rfl (PySem.evalArgs_none ⟨rfl, ty, PySem.F.args_dict_keys_1 _, _, meetsKeysT (es := es) (ep := ep) h1, ⟨o, h2, h3, h4⟩, ?_⟩)
  refine wpAny_pyIter_keys_raw (d := d) (es := es) (ep := ep) ⟨_, Heap.get?_push_size _ rfl, rfl, rfl⟩ ⟨o, Heap.get?_push_of_some _ h2, h3, h4⟩ (pi_one (tk := s1.toks) I2 _ (turn_keysT _ h4) ⟨_, Heap.get?_push_size _ rfl, rfl, ?_⟩ q)
  rw [h5]
  rfl
/-! ### <, <= of data -/
def rLtD (K : PySem.W.Frag) : R2 := fun x y H Q => ∃ d e, Dp K H x d ∧ Dp K H y e ∧ alike d e = true ∧ d ≠ .none ∧ d.depth ≤ 16 ∧ Q (.bl (dataLt d e)) H
theorem op_ltD (hu : X.A.units + 32 < cLine) : OpR X (compareOp .Lt) (rLtD X.K) := by
  rintro pins s σ H x y v u Q I rx ry ⟨d, e, hd, he, al, nn, dp, q⟩
  obtain ⟨as, ra⟩ := Dp.reads I _ _ _ hd rx
  obtain ⟨bs, rb⟩ := Dp.reads I _ _ _ he ry
  exact lt_data ra rb al nn (by omega) ⟨.bl _, H, I, rfl, q⟩
def rLeD (K : PySem.W.Frag) : R2 := fun x y H Q => ∃ d e, Dp K H x d ∧ Dp K H y e ∧ alike d e = true ∧ d ≠ .none ∧ d.depth ≤ 16 ∧ Q (.bl (!dataLt e d)) H
theorem op_leD (hu : X.A.units + 32 < cLine) : OpR X (compareOp .LtE) (rLeD X.K) := by
  rintro pins s σ H x y v u Q I rx ry ⟨d, e, hd, he, al, nn, dp, q⟩
  obtain ⟨as, ra⟩ := Dp.reads I _ _ _ hd rx
  obtain ⟨bs, rb⟩ := Dp.reads I _ _ _ he ry
  exact le_data ra rb al nn (by omega) ⟨.bl _, H, I, rfl, q⟩
/-! ### t * 1 -/
theorem tuple_mul1 (l : Addr) (items : Array Value) (n : Nat) (dd : Option Addr) (sl : Array (Option Value)) (u : Tok) :
    Meets (Builtin.«tuple.__mul__» ⟨[.ref l, .int 1 u], []⟩) (fun _ R s => s.heap.get? l = some { cls := .type "tuple", dict := dd, data := .seq items n, slots := sl } ∧ R (.ok (.ret (Value.ref l))) s) :=
  .of_wp fun prog w A R s h => by
    obtain ⟨hp, g, d, tk, os⟩ := s
    obtain ⟨hl, h⟩ := h
    have f1 := AutoSeq1.idx_int
    have ty : Shared.TypeIs ⟨hp, g, d, tk, os⟩ (.ref l) "tuple" := ⟨_, hl, rfl⟩
    have c0 : ¬ (((1 : Int) < -(2 ^ 63)) || decide ((1 : Int) ≥ 2 ^ 63)) = true := by decide
    have c1 : (items.isEmpty || (1 : Int) == 1) = true := by simp
    wp_walk using wpAny_loadPart' hl, wpAny_typeOf ty
    exact ⟨_, rfl, h⟩
def rRep1 (K : PySem.W.Frag) : R2 := fun x y H Q => ∃ l xs, x = .ref l ∧ y = .int 1 ∧ SqT K H l xs ∧ Q (.ref l) H
theorem op_rep1T : OpR X (binaryOp .Mult) (rRep1 X.K) := by
  rintro pins s σ H x y v u Q I rx ry ⟨l, xs, rfl, rfl, hT, q⟩
  cases rx
  obtain ⟨t, rfl⟩ := ry
  obtain ⟨its, r, ⟨⟨cls, dd, data, sl⟩, ho, hc, n, hd⟩, hs⟩ := I.tuple hT
  obtain rfl : cls = .type "tuple" := hc
  obtain rfl : data = .seq its.toArray n := hd
  exact wpAny_binaryOp_repeat_ref (T := "tuple") (U := "int") (by decide) ⟨_, ho, rfl⟩ (fun s' => typeIs_int s' 1 t) noFill_tuple_mul PySem.F.fills_int_mul PySem.F.slot_int_rmul repeat_tuple PySem.F.slot_int_index.lookup
    (call_meets PySem.F.slot_int_rmul (typeIs_int s 1 t) PySem.F.entry_int_rmul (PySem.F.args_int_rmul_2 _ _) (int_rmul_tuple 1 t l its.toArray n dd sl)
      ⟨ho, rfl, ⟨_, ho, rfl⟩, call_meets PySem.F.slot_tuple_mul ⟨_, ho, rfl⟩ PySem.F.entry_tuple_mul (PySem.F.args_tuple_mul_2 _ _) (tuple_mul1 l its.toArray n dd sl t) ⟨ho, .ref l, H, I, rfl, q⟩⟩)
/-! ### t[::-1] -/
theorem rev_pick (xs : Array Value) : ((List.range xs.size).filterMap fun (k : Nat) => xs[(((xs.size : Nat) : Int) - 1 + (k : Int) * -1).toNat]?).toArray = xs.toList.reverse.toArray := by
  congr 1
  apply List.ext_getElem?
  intro i
  have e : ∀ l : List Nat, (∀ k ∈ l, k < xs.size) → (l.filterMap fun (k : Nat) => xs[(((xs.size : Nat) : Int) - 1 + (k : Int) * -1).toNat]?) = l.map fun k => xs.toList.reverse.getD k .none := by
    intro l
    induction l with
    | nil => intro _; rfl
    | cons k l ih =>
      intro hl
      have hk := hl k (by simp)
      have e1 : (((xs.size : Nat) : Int) - 1 + (k : Int) * -1).toNat = xs.size - 1 - k := by omega
      have e2 : xs[(((xs.size : Nat) : Int) - 1 + (k : Int) * -1).toNat]? = some (xs.toList.reverse.getD k .none) := by
        rw [e1, Array.getElem?_eq_getElem (by omega)]
        simp [hk]
      rw [List.filterMap_cons_some (f := fun (k : Nat) => xs[(((xs.size : Nat) : Int) - 1 + (k : Int) * -1).toNat]?) e2, List.map_cons, ih fun j hj => hl j (by simp [hj])]
  rw [e _ fun k hk => List.mem_range.mp hk, List.getElem?_map]
  by_cases h : i < xs.size
  · simp [h]
  · have h2 : xs.toList.reverse[i]? = none := List.getElem?_eq_none (by simp; omega)
    rw [h2, List.getElem?_eq_none (by simp; omega)]
    rfl
theorem cut_rev {prog : Program} {w : World} {A : Around} {E : Value → Shared → Prop} {s : Shared} {sl : Addr} {vs : Value} {n : Nat} {Q : Int × Int × Nat → Shared → Prop} (hs : s.heap.IsSliceOf sl .none .none vs) (ps : IsPart vs (some (-1))) (hn : 1 ≤ n) (h : Q ((n : Int) - 1, -1, n) s) :
    wpAny (model prog w) A (Builtin.Slice.sliceApplied (.ref sl) (pure (n : Int))) Q E s := by
  obtain ⟨os, e1, e2, e3⟩ := id hs
  unfold Builtin.Slice.sliceApplied Builtin.Slice.sliceFields
  refine wpAny_bind (wpAny_bind (wpAny_field e1 e3 (x := .none) rfl (wpAny_bind (wpAny_field e1 e3 (x := .none) rfl (wpAny_bind (wpAny_field e1 e3 (x := vs) rfl (wpAny_pure ?_)))))))
  refine wpAny_bind (HT.slicePart_ ps ?_)
  show wpAny _ _ (if ((-1 : Int) == 0) = true then _ else _) _ _ s
  rw [if_neg (by decide)]
  refine wpAny_bind (HT.slicePart_ .none (wpAny_bind (HT.slicePart_ .none (wpAny_bind (wpAny_pure ?_)))))
  have e4 : Builtin.Slice.sliceAdjust none none (-1) (n : Int) = ((n : Int) - 1, -1) := rfl
  have e5 : Builtin.Slice.slicePlaces ((n : Int) - 1) (-1) (-1) = n := by
    unfold Builtin.Slice.slicePlaces
    rw [if_neg (by decide), if_pos (by omega)]
    have : ((n : Int) - 1 - -1 - 1) / (- -1) + 1 = n := by
      rw [show (- -1 : Int) = 1 by decide, Int.ediv_one]
      omega
    rw [this]
    omega
  show wpAny _ _ (match Builtin.Slice.sliceAdjust none none (-1) (n : Int) with | (lo, hi) => pure (lo, (-1 : Int), Builtin.Slice.slicePlaces lo hi (-1))) _ _ s
  rw [e4]
  show wpAny _ _ (pure ((n : Int) - 1, (-1 : Int), Builtin.Slice.slicePlaces ((n : Int) - 1) (-1) (-1))) _ _ s
  rw [e5]
  exact wpAny_pure h
theorem getItem_tupleRev {prog : Program} {w : World} {A : Around} {E : Value → Shared → Prop} {s : Shared} {t sl : Addr} {items : Array Value} {vs : Value} {Q : Value → Shared → Prop} (ht : IsTup s.heap t items) (hs : s.heap.IsSliceOf sl .none .none vs) (ps : IsPart vs (some (-1))) (h1 : 1 ≤ items.size) (hz : items.size ≤ sizeLine)
    (h : Q (.ref s.heap.objs.size) { s with heap := s.heap.push { cls := .type "tuple", data := .seq items.toList.reverse.toArray } }) : wpAny (model prog w) A (getItem (.ref t) (.ref sl)) Q E s := by
  obtain ⟨os, hos, hcs, hds⟩ := id hs
  have tys : s.TypeIs (.ref sl) "slice" := ⟨os, hos, hcs⟩
  obtain ⟨o, ho, hc, n, hd⟩ := id ht
  have tyt : s.TypeIs (.ref t) "tuple" := ⟨o, ho, hc⟩
  unfold getItem
  try with_reducible refine wpAny_holding ?_
  first | refine wpAny_bind (wpAny_pure ?_) | skip
  refine wpAny_bind (wpAny_sequenceKey tyt (by decide) ?_)
  refine wpAny_bind (wpAny_callSpecial?_slot (name := Str.ofString "__getitem__") tyt PyProof.Rows.slot_tuple_getitem (wpAny_call_entry PyProof.Rows.slot_tuple_getitem tyt PyProof.Rows.entry_tuple_getitem ?_ (PyProof.Rows.args_tuple_getitem _ _)))
  show wpAny _ _ (Builtin.Tuple.tupleItemsOf (.ref t) >>= _) _ _ s
  refine wpAny_bind (tupleItemsOf_ ht ?_)
  refine wpAny_bind (wpAny_typeOf tys ?_)
  rw [if_pos (by decide)]
  refine wpAny_bind (cut_rev hs ps h1 ?_)
  dsimp only
  rw [if_neg (by
    intro z
    have : ((-1 : Int) == 1) = false := by decide
    rw [this, Bool.and_false, Bool.false_and] at z
    cases z)]
  rw [rev_pick]
  refine wpAny_bind ?_
  unfold Builtin.Tuple.tupleExact
  refine wpAny_newObj_type ?_ (by show items.toList.reverse.toArray.size ≤ sizeLine; simpa using hz)
  first
    | exact wpAny_pure ⟨_, rfl, wpAny_pure h⟩
    | exact wpAny_bind (wpAny_pure (wpAny_pure ⟨_, rfl, wpAny_pure h⟩))
def tRevT (K : PySem.W.Frag) (te : TE) : TE := fun σ H Q => te σ H fun x H1 => ∃ a xs, x = .ref a ∧ SqT K H1 a xs ∧ xs ≠ [] ∧ ∀ p, H1 p = none → Q (.ref p) (upd H1 p (.tup xs.reverse))
theorem pe_revT {e : Expr} {te : TE} {k : Nat} {p1 p2 p3 pos : Pos} (he : PE X e te) : PE X (.Subscript e (.Slice none none (some (.UnaryOp .USub (.Constant (.int 1) k p1) p2)) p3) pos) (tRevT X.K te) := by
  constructor
  intro pins s σ H Q I h
  refine Subscript_ (thn (he.run pins s σ H _ I h) ?_)
  rintro v s1 ⟨_, H1, I1, r1, a, xs, rfl, hx, ne, q⟩
  obtain rfl : v = Value.ref a := r1
  have step : PO X (some (.UnaryOp .USub (.Constant (.int 1) k p1) p2)) (tPart (tUn (rU fun i => .int (-i)) (tC (.int 1)))) := po_some (pe_un un_neg pe_int)
  refine wpAny_Slice (thn (po_none.run pins s1 σ H1 (fun o H2 => o = none ∧ H2 = H1) I1 ⟨rfl, rfl⟩) ?_)
  rintro vl s2 ⟨_, _, I2, pl, rfl, rfl⟩
  refine thn (po_none.run pins s2 σ _ (fun o H3 => o = none ∧ H3 = _) I2 ⟨rfl, rfl⟩) ?_
  rintro vu s3 ⟨_, _, I3, pu, rfl, rfl⟩
  refine thn (step.run pins s3 σ _ (fun o H4 => o = some (-1) ∧ H4 = _) I3 ⟨1, rfl, -1, rfl, rfl, rfl⟩) ?_
  rintro vs s4 ⟨_, H4, I4, ps, rfl, rfl⟩
  have I5 : Inv X pins σ H4 { s4 with heap := s4.heap.push { cls := .type "slice", data := .fields #[vl, vu, vs] } } := I4.kept (t' := s4.toks) fun b ob e => Heap.get?_push_of_some _ e
  obtain ⟨its, r, ht, hz⟩ := I5.tuple hx
  have hl := r.length
  have h1 : 1 ≤ its.length := by
    cases xs with
    | nil => exact absurd rfl ne
    | cons x xs => rw [← hl]; simp
  cases pl
  cases pu
  show wpAny (model X.prog X.w) X.A (subscriptTail e (.Slice none none (some (.UnaryOp .USub (.Constant (.int 1) k p1) p2)) p3) (.ref a) (.ref s4.heap.objs.size)) (EP X pins σ Q) X.xe { s4 with heap := s4.heap.push { cls := .type "slice", data := .fields #[.none, .none, vs] } }
  refine tail_any (ops := [.ref a, .ref s4.heap.objs.size]) ht.typeIs (PyProof.Rows.slot_tuple_getitem.lookup) ?_ (by with_unfolding_all rfl)
  refine getItem_tupleRev ht (Heap.IsSliceOf.new _ .none .none vs) ps (by rw [List.size_toArray]; exact h1) (by rw [List.size_toArray]; omega) ?_
  refine ⟨.ref _, _, I5.laid (t' := s4.toks) (o := .tup xs.reverse) (fun b ob e => Heap.get?_push_of_some _ e) (Nat.le_refl _) ?_, rfl, q _ (I5.hok.fresh (Nat.le_refl _))⟩
  exact ⟨by rw [List.length_reverse]; exact hz, _, r.reverse, IsTup.new _ _⟩
end
end MX
end

section
set_option Elab.async false
set_option linter.all false
set_option maxRecDepth 100000
set_option maxHeartbeats 4000000
/-! the text; data as the defs hand it on -/
namespace MX
open PySem PySem.Spec PyProof.Rows L2
/-- the i-th statement of the text -/
def topS (i : Nat) : Stmt := PySem.Challenge.pw_meltlibrary_k63_whole_flood_families.main.body.getD i (.Pass ⟨0, 0, 0, 0⟩)
/-- what the text leaves alone of the built-in names; its own numbers -/
structure Bi (mg : Str → Option Value) : Prop where
  all : mg "all" = none
  zip : mg "zip" = none
  len : mg "len" = none
  range : mg "range" = none
  sorted : mg "sorted" = none
  tuple : mg "tuple" = none
  list : mg "list" = none
  set : mg "set" = none
  dict : mg "dict" = none
  isi : mg "isinstance" = none
  int : mg "int" = none
  bool : mg "bool" = none
  str : mg "str" = none
  sum : mg "sum" = none
  min : mg "min" = none
  mtexts : ∃ t, mg "MOST_TEXTS" = some (.int 3 t)
  mtabs : ∃ t, mg "MOST_TABLETS" = some (.int 6 t)
  msum : ∃ t, mg "MOST_SUM" = some (.int 3 t)
  mmelts : ∃ t, mg "MOST_MELTS" = some (.int 3 t)
theorem boot_all : bootBuiltins "all" = some (Value.builtin "all") := (by decide +kernel)
theorem boot_sorted : bootBuiltins "sorted" = some (Value.builtin "sorted") := (by decide +kernel)
theorem boot_sum : bootBuiltins "sum" = some (Value.builtin "sum") := (by decide +kernel)
theorem boot_min : bootBuiltins "min" = some (Value.builtin "min") := (by decide +kernel)
theorem boot_isi : bootBuiltins "isinstance" = some (Value.builtin "isinstance") := (by decide +kernel)

/-! ### only tuples are asked after -/
def Tk (H H' : Hp) : Prop := ∀ b xs, H b = some (.tup xs) → H' b = some (.tup xs)
theorem Tk.refl (H : Hp) : Tk H H := fun _ _ e => e
theorem Tk.trans {H H1 H2 : Hp} (a : Tk H H1) (b : Tk H1 H2) : Tk H H2 := fun c xs e => b c xs (a c xs e)
theorem Kp.tk {H H' : Hp} (k : Kp H H') : Tk H H' := fun _ _ e => k.tup e
theorem Tk.new {H : Hp} {p : Addr} {o : HO} (h : H p = none) : Tk H (upd H p o) := fun b xs e => by rw [upd_ne (ne_of_none e h)]; exact e
theorem Tk.put {H : Hp} {p : Addr} {u o : HO} (h : H p = some u) (n : ∀ xs, u ≠ .tup xs) : Tk H (upd H p o) := fun b xs e => by
  rw [upd_ne]
  · exact e
  · rintro rfl
    rw [h] at e
    cases e
    exact n _ rfl
theorem Tk.lst {H : Hp} {p : Addr} {ys : List V} {o : HO} (h : H p = some (.lst ys)) : Tk H (upd H p o) := Tk.put h fun xs z => by cases z
theorem Tk.dT {H : Hp} {p : Addr} {ys : List (List Key × V)} {o : HO} (h : H p = some (.dT ys)) : Tk H (upd H p o) := Tk.put h fun xs z => by cases z
theorem Tk.dK {H : Hp} {p : Addr} {ys : List (Key × V)} {o : HO} (h : H p = some (.dK ys)) : Tk H (upd H p o) := Tk.put h fun xs z => by cases z
theorem Tk.frz {H : Hp} {p : Addr} {od : Obj} {u o : HO} (h : H p = some (.frz od u)) : Tk H (upd H p o) := Tk.put h fun xs z => by cases z

/-! ### numbers, tuples of numbers, lists of such -/
abbrev nV (n : Nat) : V := .int (n : Int)
def IT (H : Hp) (v : V) (ms : List Nat) : Prop := ∃ a, v = .ref a ∧ H a = some (.tup (ms.map nV))
theorem IT.tk {H H' : Hp} {v : V} {ms : List Nat} (h : IT H v ms) (k : Tk H H') : IT H' v ms := let ⟨a, e, q⟩ := h; ⟨a, e, k _ _ q⟩
theorem IT.kp {H H' : Hp} {v : V} {ms : List Nat} (h : IT H v ms) (k : Kp H H') : IT H' v ms := h.tk k.tk
abbrev ITs (H : Hp) : List V → List (List Nat) → Prop := Paired (IT H)
theorem ITs.tk {H H' : Hp} {vs : List V} {l : List (List Nat)} (h : ITs H vs l) (k : Tk H H') : ITs H' vs l := Paired.mono (fun _ _ q => IT.tk q k) h
/-- a list of tuples of numbers -/
def LT (H : Hp) (v : V) (l : List (List Nat)) : Prop := ∃ a vs, v = .ref a ∧ H a = some (.lst vs) ∧ ITs H vs l
/-- a list of numbers -/
def LN (H : Hp) (v : V) (l : List Nat) : Prop := ∃ a, v = .ref a ∧ H a = some (.lst (l.map nV))
theorem LT.kp {H H' : Hp} {v : V} {l : List (List Nat)} (h : LT H v l) (k : Kp H H') : LT H' v l := let ⟨a, vs, e, q, r⟩ := h; ⟨a, vs, e, k.lst q, r.tk k.tk⟩
theorem LN.kp {H H' : Hp} {v : V} {l : List Nat} (h : LN H v l) (k : Kp H H') : LN H' v l := let ⟨a, e, q⟩ := h; ⟨a, e, k.lst q⟩
/-- a library: how many texts, its tablets -/
def Lib (H : Hp) (v : V) (t : Nat) (l : List (List Nat)) : Prop := ∃ a b vs, v = .ref a ∧ H a = some (.tup [nV t, .ref b]) ∧ H b = some (.tup vs) ∧ ITs H vs l
theorem Lib.tk {H H' : Hp} {v : V} {t : Nat} {l : List (List Nat)} (h : Lib H v t l) (k : Tk H H') : Lib H' v t l := let ⟨a, b, vs, e, p, q, r⟩ := h; ⟨a, b, vs, e, k _ _ p, k _ _ q, r.tk k⟩
theorem Lib.kp {H H' : Hp} {v : V} {t : Nat} {l : List (List Nat)} (h : Lib H v t l) (k : Kp H H') : Lib H' v t l := h.tk k.tk
section
variable {α β γ : Type} {F : α → β → Prop}
theorem Paired.at' : ∀ {l : List α} {m : List β} {i : Nat} {x : α}, Paired F l m → l[i]? = some x → ∃ y, m[i]? = some y ∧ F x y
  | _, _, i, x, .nil, e => by simp at e
  | _, _, 0, x, .cons h _, e => by
    simp at e
    subst e
    exact ⟨_, rfl, h⟩
  | _, _, i + 1, x, .cons _ t, e => by
    obtain ⟨y, h1, h2⟩ := Paired.at' (i := i) t (by simpa using e)
    exact ⟨y, by simpa using h1, h2⟩
theorem Paired.snoc' {l : List α} {m : List β} {x : α} {y : β} (h : Paired F l m) (q : F x y) : Paired F (l ++ [x]) (m ++ [y]) := h.snoc q
theorem Paired.app : ∀ {l l' : List α} {m m' : List β}, Paired F l m → Paired F l' m' → Paired F (l ++ l') (m ++ m')
  | _, _, _, _, .nil, h => h
  | _, _, _, _, .cons a t, h => .cons a (Paired.app t h)
theorem Paired.drop' : ∀ {l : List α} {m : List β} (n : Nat), Paired F l m → Paired F (l.drop n) (m.drop n)
  | _, _, 0, h => h
  | _, _, n + 1, .nil => .nil
  | _, _, n + 1, .cons _ t => Paired.drop' n t
theorem Paired.take' : ∀ {l : List α} {m : List β} (n : Nat), Paired F l m → Paired F (l.take n) (m.take n)
  | _, _, 0, _ => .nil
  | _, _, n + 1, .nil => .nil
  | _, _, n + 1, .cons a t => .cons a (Paired.take' n t)
theorem Paired.rev {l : List α} {m : List β} (h : Paired F l m) : Paired F l.reverse m.reverse := by
  induction h with
  | nil => exact .nil
  | cons a t ih => rw [List.reverse_cons, List.reverse_cons]; exact ih.snoc a
end
theorem take_more {α : Type} {l : List α} {i : Nat} {x : α} (h : l[i]? = some x) : l.take (i + 1) = l.take i ++ [x] := by rw [List.take_add_one, h]; rfl
theorem map_at {α β : Type} {f : α → β} {l : List α} {i : Nat} {y : β} (h : (l.map f)[i]? = some y) : ∃ x, l[i]? = some x ∧ y = f x := by
  rw [List.getElem?_map] at h
  obtain ⟨x, hx, e⟩ := Option.map_eq_some_iff.mp h
  exact ⟨x, hx, e.symm⟩
/-- what was there is there: H0 the heap when the def began -/
theorem Kp.lstPut {H0 H : Hp} {p : Addr} {xs : List V} {o : HO} (k : Kp H0 H) (h0 : H0 p = none) : Kp H0 (upd H p o) := k.put h0

/-! ### a promise: the arguments' reading x, the answer's -/
def spR {α : Type} (n : Nat) (A : List V → Hp → α → Prop) (B : α → V → Hp → Prop) : Sp := fun vs H Q _ => vs.length = n ∧ ∃ x : α, A vs H x ∧ ∀ v H', Kp H H' → B x v H' → Q v H'
theorem spR_len {α : Type} {n : Nat} {A : List V → Hp → α → Prop} {B : α → V → Hp → Prop} : ∀ vs H Q E, spR n A B vs H Q E → vs.length = n := fun _ _ _ _ h => h.1
theorem spR_E {α : Type} {n : Nat} {A : List V → Hp → α → Prop} {B : α → V → Hp → Prop} : ∀ vs H Q E, spR n A B vs H Q E → spR n A B vs H Q E0 := fun _ _ _ _ h => h

/-- an expression of any kind as a test -/
def tTru (K : PySem.W.Frag) (t : TE) : TT := fun st H R => t st H fun v G => ∃ b, TruV K v G b ∧ R b G
theorem pt_tru {X : Cx} {a : Expr} {ta : TE} (K : PySem.W.Frag) (ha : PE X a ta) (hK : X.K = K := by rfl) (he : ∀ whole, isTrue a X.env whole = (do let v ← whole; standAt a.pos; holding [v] (truthy v)) := by intro _; rfl) : PT X a (tTru K ta) := by
  subst hK
  exact pt_truth ha he
theorem un_of {A : Around} {k : Nat} (hr : Room k A) {n : Nat} (h : n ≤ 200) : A.units + n < cLine := by have := hr.un; omega
/-! ### the layer's rules with the written part said beforehand (a block's own context says the same of it) -/
def rTupOf (K : PySem.W.Frag) : List V → Hp → VK → Prop := fun xs H Q => ∃ p ys, xs = [V.ref p] ∧ ((SqL K H p ys ∧ ∀ l, H l = none → Q (.ref l) (upd H l (.tup ys))) ∨ (SqT K H p ys ∧ Q (.ref p) H))
def rListOf (K : PySem.W.Frag) : List V → Hp → VK → Prop := fun xs H Q => ∃ p ys, xs = [V.ref p] ∧ (SqL K H p ys ∨ SqT K H p ys) ∧ ∀ l, H l = none → Q (.ref l) (upd H l (.lst ys))
def rLenOf (K : PySem.W.Frag) : List V → Hp → VK → Prop := fun xs H Q => ∃ p ys, xs = [V.ref p] ∧ (SqL K H p ys ∨ SqT K H p ys) ∧ Q (.int ys.length) H
section
variable {X : Cx} (K : PySem.W.Frag) (hK : X.K = K := by rfl)
include hK in
theorem ix_listK  : IxR X (rIxL K) := by
  subst hK
  exact ix_list 
include hK in
theorem ix_tupK  : IxR X (rIxT K) := by
  subst hK
  exact ix_tup 
include hK in
theorem op_in_seqK  : OpR X (compareOp .In) (rIn K false) := by
  subst hK
  exact op_in_seq 
include hK in
theorem op_notIn_seqK  : OpR X (compareOp .NotIn) (rIn K true) := by
  subst hK
  exact op_notIn_seq 
include hK in
theorem op_catAK  : OpR X (binaryOp .Add) (rCatA K) := by
  subst hK
  exact op_catA 
include hK in
theorem sl_tupAK  : SlR X (rSlA K) := by
  subst hK
  exact sl_tupA 
include hK in
theorem sl_listK  : SlR X (rSlL K) := by
  subst hK
  exact sl_list 
include hK in
theorem op_repTK  : OpR X (binaryOp .Mult) (rRepT K) := by
  subst hK
  exact op_repT 
include hK in
theorem op_rep1TK  : OpR X (binaryOp .Mult) (rRep1 K) := by
  subst hK
  exact op_rep1T 
include hK in
theorem op_inDK (hu : X.A.units + 65 < cLine) : OpR X (compareOp .In) (rInD K) := by
  subst hK
  exact op_inD hu
include hK in
theorem op_notInDK (hu : X.A.units + 65 < cLine) : OpR X (compareOp .NotIn) (rNotInD K) := by
  subst hK
  exact op_notInD hu
include hK in
theorem op_ltDK (hu : X.A.units + 32 < cLine) : OpR X (compareOp .Lt) (rLtD K) := by
  subst hK
  exact op_ltD hu
include hK in
theorem op_leDK (hu : X.A.units + 32 < cLine) : OpR X (compareOp .LtE) (rLeD K) := by
  subst hK
  exact op_leD hu
include hK in
theorem op_eqDK (hu : X.A.units + 64 < cLine) : OpR X (compareOp .Eq) (rEqD K) := by
  subst hK
  exact op_eqD hu
include hK in
theorem op_neDK (hu : X.A.units + 64 < cLine) : OpR X (compareOp .NotEq) (rNeD K) := by
  subst hK
  exact op_neD hu
include hK in
theorem call_tuple_ofK  : CallR X (.type "tuple") (rTupOf K) := by
  subst hK
  exact call_tuple_of 
include hK in
theorem call_list_ofK  : CallR X (.type "list") (rListOf K) := by
  subst hK
  exact call_list_of 
include hK in
theorem call_len_seqK  : CallR X (.builtin "len") (rLenOf K) := by
  subst hK
  exact call_len_seq 
include hK in
theorem call_isiK  : CallR X (.builtin "isinstance") (rIsi K) := by
  subst hK
  exact call_isi 
include hK in
theorem call_isiTK  : CallR X (.builtin "isinstance") (rIsiT K) := by
  subst hK
  exact call_isiT 
include hK in
theorem cr_sumK (hc : X.calm = true) : CallR X (.builtin "sum") (rSum K) := by
  subst hK
  exact cr_sum hc
include hK in
theorem cr_dictTK (hc : X.calm = true) (hu : X.A.units + 8 < cLine) : CallR X (.type "dict") (rDictT K) := by
  subst hK
  exact cr_dictT hc hu
include hK in
theorem cl_seqK  : ClR X (cSeq K) := by
  subst hK
  exact cl_seq 
include hK in
theorem cr_sortCK {c : V → Hp → (List V → Hp → Prop) → Prop} (hc : ClR X c) (hu : X.A.units + 32 < cLine) : CallR X (.builtin "sorted") (rSortC K c) := by
  subst hK
  exact cr_sortC hc hu
include hK in
theorem cr_sortKK {c : V → Hp → (List V → Hp → Prop) → Prop} {k : Nat} {f : Addr} {fd : FuncData} {ps : List Str} {sp : Sp} (F : FnOk X.prog X.w X.K X.mg X.base CX0 k f fd ps sp) (hr : Room (k + 2) X.A) (hb : Binds X.K fd ps []) (hc : ClR X c) (hu : X.A.units + 32 < cLine) : CallRK X (.builtin "sorted") [Str.ofString "key"] (rSortK K f sp c) := by
  subst hK
  exact cr_sortK F hr hb hc hu
include hK in
theorem cr_setNK (w : World) (hw : X.w = w) (hc : X.calm = true) (hu : X.A.units + 128 < cLine) : CallR X (.type "set") (rSetN K w) := by
  subst hK hw
  exact cr_setN hc hu
theorem cl_setNK (w : World) (hw : X.w = w) (hc : X.calm = true) : ClR X (cSetN w) := by
  subst hw
  exact cl_setN hc
include hK in
theorem pi_listK {tg l : Expr} {tl : TE} (hl : PE X l tl) : PI X tg l (iList K tl) := by
  subst hK
  exact pi_list hl
include hK in
theorem pi_tupK {tg l : Expr} {tl : TE} (hl : PE X l tl) : PI X tg l (iTup K tl) := by
  subst hK
  exact pi_tup hl
include hK in
theorem pg_tupK {es : List Expr} {k : Nat} {t : TGs} {n : Nat} {pos : Pos} (hc : X.calm = true) (h : PGs X es t) (hn : (assignEach es X.env).length = n := by rfl) (hst : (assignEach es X.env).findIdx? (·.1) = none := by rfl) : PG X (.Tuple es k pos) (gTup K n t) := by
  subst hK
  exact pg_tup hc h hn hst
include hK in
theorem pe_fldK {e : Expr} {f : Str} {ta : TE} {pos : Pos} (he : PE X e ta) (hb : attributeBase e f X.env (eval e X.env) = eval e X.env := by rfl) : PE X (.Attribute e f pos) (tFld K ta f) := by
  subst hK
  exact pe_fld he hb
include hK in
theorem pi_zipAK {e e2 : Expr} {ta : TA} {p pos tpos : Pos} {elts : List Expr} {kk : Nat} (hg : Gl X "zip") (hm : X.mg "zip" = none) (ha : PA X [e, e2] ta)
    (hs : starEach [e, e2] X.env = (false, eval e X.env) :: starEach [e2] X.env := by rfl) (hpl : (backTo pos (starEach [e2] X.env)).any (·.1) = false := by rfl) : PI X (.Tuple elts kk tpos) (.Call (.Name "zip" p) [e, e2] [] pos) (RZ.iZipA K ta) := by
  subst hK
  exact RZ.pi_zipA hg hm ha hs hpl
end
/-! ### numbers that are not negative -/
section
variable {X : Cx}
theorem op_xorN : OpR X (binaryOp .BitXor) (fun x y H Q => ∃ i j : Nat, x = nV i ∧ y = nV j ∧ Q (nV (i ^^^ j)) H) := by
  rintro pins s σ H x y v u Q I rx ry ⟨i, j, rfl, rfl, q⟩
  refine op_xor pins s σ H _ _ v u Q I rx ry ⟨_, _, rfl, rfl, ?_⟩
  dsimp only
  rw [Bits.bitXor_pp (by omega) (by omega)]
  exact q
theorem iop_xorN : OpR X (inplaceOp .BitXor) (fun x y H Q => ∃ i j : Nat, x = nV i ∧ y = nV j ∧ Q (nV (i ^^^ j)) H) := by
  rintro pins s σ H x y v u Q I rx ry ⟨i, j, rfl, rfl, q⟩
  refine iop_xor pins s σ H _ _ v u Q I rx ry ⟨_, _, rfl, rfl, ?_⟩
  dsimp only
  rw [Bits.bitXor_pp (by omega) (by omega)]
  exact q
theorem op_andN : OpR X (binaryOp .BitAnd) (fun x y H Q => ∃ i j : Nat, x = nV i ∧ y = nV j ∧ Q (nV (i &&& j)) H) := by
  rintro pins s σ H x y v u Q I rx ry ⟨i, j, rfl, rfl, q⟩
  refine op_and pins s σ H _ _ v u Q I rx ry ⟨_, _, rfl, rfl, ?_⟩
  dsimp only
  rw [bitAnd_pp (by omega) (by omega)]
  exact q
theorem op_shrNN : OpR X (binaryOp .RShift) (fun x y H Q => ∃ i k : Nat, x = nV i ∧ y = nV k ∧ Q (nV (i >>> k)) H) := by
  rintro pins s σ H x y v u Q I rx ry ⟨i, k, rfl, rfl, q⟩
  refine op_shrN pins s σ H _ _ v u Q I rx ry ⟨_, k, rfl, rfl, ?_⟩
  rw [Nat.shiftRight_eq_div_pow] at q
  have e : ((i : Int) / 2 ^ k) = ((i / 2 ^ k : Nat) : Int) := by
    rw [Int.natCast_ediv]
    congr 1
  rw [e]
  exact q
theorem op_shlNN : OpR X (binaryOp .LShift) (fun x y H Q => ∃ k : Nat, x = .int 1 ∧ y = nV k ∧ k ≤ 1000 ∧ Q (nV (1 <<< k)) H) := by
  rintro pins s σ H x y v u Q I rx ry ⟨k, rfl, rfl, hk, q⟩
  refine op_shl pins s σ H _ _ v u Q I rx ry ⟨1, _, rfl, rfl, ⟨by omega, by omega, by decide⟩, ?_⟩
  dsimp only
  have e : ((1 : Int) * (2 : Int) ^ (k : Int).toNat) = ((1 <<< k : Nat) : Int) := by
    rw [Nat.shiftLeft_eq, Int.one_mul, Nat.one_mul, Int.toNat_natCast]
    exact (Int.natCast_pow 2 k).symm
  rw [e]
  exact q
end
end MX
end

section
set_option Elab.async false
set_option linter.all false
/-! the mirror: what the defs compute, in plain Lean -/
namespace MX
def tabletOf (m : Nat) : List Nat := (List.range 3).filter fun t => (m >>> t) &&& 1 != 0
def maskOf (t : List Nat) : Nat := (t.map fun k => 1 <<< k).sum
def totalOf (ms : List Nat) : Nat := ms.foldl (fun f m => f ^^^ m) 0
def spanStep (f : List Nat) (m : Nat) : List Nat := if m ∈ f then f else f ++ f.map fun o => o ^^^ m
def spanF (ms : List Nat) : List Nat := ms.foldl spanStep [0]
def hasAll (t : Nat) (ms : List Nat) : Bool := decide ((spanF ms).length = 1 <<< t)
def rowStep (most : Nat) (f : List (List Nat)) (n : Nat) : List (List Nat) := f ++ (f.filter fun r => decide (r.length < most)).map fun r => r ++ [n]
def rowsF (ns : List Nat) (most : Nat) : List (List Nat) := ns.foldl (rowStep most) [[]]
/-- ascending, as Python's sorted -/
def sortL (l : List (List Nat)) : List (List Nat) := l.mergeSort fun a b => !decide (b < a)
def rowsOf (ns : List Nat) (most : Nat) : List (List Nat) := sortL (rowsF ns most)
/-- by the tablets -/
def inOrder (ms : List Nat) : List Nat := ms.mergeSort fun a b => !decide (tabletOf b < tabletOf a)
/-- keys as a dict keeps them: the first place counts -/
def putN {α : Type} [DecidableEq α] (l : List α) (x : α) : List α := if x ∈ l then l else l ++ [x]
def sumsOf (ms : List Nat) (most : Nat) : List Nat := ((rowsOf (List.range ms.length) most).map fun r => totalOf (r.map fun i => ms.getD i 0)).foldl putN []
def cuts (left : List Nat) : List (List Nat) := (List.range left.length).map fun k => left.take k ++ left.drop (k + 1)
def chosenStep (f : List (List Nat)) : List (List Nat) := f.foldl (fun l left => (cuts left).foldl putN l) []
def iter {α : Type} (g : α → α) : Nat → α → α
  | 0, x => x
  | n + 1, x => g (iter g n x)
def chosen (ms : List Nat) (many : Nat) : List (List Nat) := sortL (iter chosenStep many [ms])
def grown (most : Nat) (ms : List Nat) : List (List Nat) := (sumsOf ms most).map fun m => inOrder (ms ++ [m])
def filledStep (most : Nat) (f : List (List Nat)) : List (List Nat) := f.foldl (fun l ms => (grown most ms).foldl putN l) []
def filled (left : List Nat) (many most : Nat) : List (List Nat) := sortL (iter (filledStep most) many [left])
end MX
end

section
set_option Elab.async false
set_option linter.all false
set_option maxRecDepth 100000
set_option maxHeartbeats 4000000
namespace MX
open PySem PySem.Spec PyProof.Rows L2
/-! ### lists that a comprehension or a loop makes -/
/-- at D a list of what the mirror has so far; F reads one item and leans on tuples alone -/
def AccI {β : Type} (H1 : Hp) (D : Addr) (F : Hp → V → β → Prop) (m : List β) (H : Hp) : Prop := Kp H1 H ∧ ∃ acc, H D = some (.lst acc) ∧ Paired (F H) acc m
def Stab {β : Type} (F : Hp → V → β → Prop) : Prop := ∀ H H' v b, Tk H H' → F H v b → F H' v b
theorem stab_it : Stab IT := fun _ _ _ _ k h => h.tk k
theorem stab_nv : Stab fun _ v (n : Nat) => v = nV n := fun _ _ _ _ _ h => h
theorem stab_lib : Stab fun H v (x : Nat × List (List Nat)) => Lib H v x.1 x.2 := fun _ _ _ _ k h => h.tk k
section
variable {β : Type} {H1 H H4 : Hp} {D : Addr} {F : Hp → V → β → Prop} {m m' : List β} {y : V} {b : β}
theorem AccI.zero (hD : H1 D = none) : AccI H1 D F ([] : List β) (upd H1 D (.lst [])) := ⟨Kp.new hD, [], upd_same, .nil⟩
theorem AccI.push (S : Stab F) (I : AccI H1 D F m H) (hD : H1 D = none) (k : Kp H H4) (fy : F H4 y b) (hz : m.length < sizeLine) (e : m' = m ++ [b]) : ∃ acc, H4 D = some (.lst acc) ∧ acc.length < sizeLine ∧ AccI H1 D F m' (upd H4 D (.lst (acc ++ [y]))) := by
  obtain ⟨k1, acc, hacc, p⟩ := I
  have hd := k.lst hacc
  refine ⟨acc, hd, by rw [p.length]; exact hz, (k1.trans k).put hD, acc ++ [y], upd_same, ?_⟩
  rw [e]
  have t2 : Tk H4 (upd H4 D (.lst (acc ++ [y]))) := Tk.lst hd
  exact (Paired.mono (fun _ _ q => S _ _ _ _ (k.tk.trans t2) q) p).snoc (S _ _ _ _ t2 fy)
theorem AccI.keep (S : Stab F) (I : AccI H1 D F m H) (k : Kp H H4) (e : m' = m) : AccI H1 D F m' H4 := by
  obtain ⟨k1, acc, hacc, p⟩ := I
  rw [e]
  exact ⟨k1.trans k, acc, k.lst hacc, Paired.mono (fun _ _ q => S _ _ _ _ k.tk q) p⟩
end
theorem nv_vals : ∀ {acc : List V} {l : List Nat}, Paired (fun v (n : Nat) => v = nV n) acc l → acc = l.map nV
  | _, _, .nil => rfl
  | _, _, .cons h t => by rw [h, nv_vals t, List.map_cons]
theorem vals_nv : ∀ (l : List Nat), Paired (fun v (n : Nat) => v = nV n) (l.map nV) l
  | [] => .nil
  | _ :: l => .cons rfl (vals_nv l)

/-! ### sorted, told by what the items read -/
theorem sortV_paired {β : Type} {F : V → β → Prop} {enc : β → PyData} {xs : List V} {l : List β} (h : Paired F xs l) : Paired F (sortV xs (l.map enc)) (l.mergeSort fun a b => !PySem.W.dataLt (enc b) (enc a)) := by
  have hl := h.length
  have e1 : xs.zip (l.map enc) = (xs.zip l).map fun p => (p.1, enc p.2) := by rw [List.zip_map_right]; rfl
  have zz : ∀ p ∈ xs.zip l, F p.1 p.2 := by
    intro p hp
    obtain ⟨i, hi⟩ := List.mem_iff_getElem?.mp hp
    rw [List.getElem?_zip_eq_some] at hi
    obtain ⟨y, hy, q⟩ := Paired.at' h hi.1
    rw [hi.2] at hy
    cases hy
    exact q
  have e2 : sortV xs (l.map enc) = ((xs.zip l).mergeSort fun p q => !PySem.W.dataLt (enc q.2) (enc p.2)).map (·.1) := by
    unfold sortV
    rw [e1, ← List.map_mergeSort (r := fun p q => !PySem.W.dataLt (enc q.2) (enc p.2)) (fun a _ b _ => by rw [PySem.W.dataLe_eq]; rfl), List.map_map]
    rfl
  have e3 : (l.mergeSort fun a b => !PySem.W.dataLt (enc b) (enc a)) = ((xs.zip l).mergeSort fun p q => !PySem.W.dataLt (enc q.2) (enc p.2)).map (·.2) := by
    rw [List.map_mergeSort (s := fun a b => !PySem.W.dataLt (enc b) (enc a)) (fun a _ b _ => rfl)]
    congr 1
    rw [zip_snd xs l hl]
  rw [e2, e3]
  have zz2 : ∀ p ∈ (xs.zip l).mergeSort fun p q => !PySem.W.dataLt (enc q.2) (enc p.2), F p.1 p.2 := fun p hp => zz p (List.mem_mergeSort.mp hp)
  generalize (xs.zip l).mergeSort (fun p q => !PySem.W.dataLt (enc q.2) (enc p.2)) = z at zz2
  induction z with
  | nil => exact .nil
  | cons p z ih => exact .cons (zz2 p (by simp)) (ih fun q hq => zz2 q (by simp [hq]))
/-- a tuple of numbers as data -/
def tD (ms : List Nat) : PyData := .tuple (ms.map fun (n : Nat) => .int (n : Int))
theorem IT.dp {K : PySem.W.Frag} {H : Hp} {v : V} {ms : List Nat} (h : IT H v ms) : Dp K H v (tD ms) := by
  obtain ⟨a, rfl, e⟩ := h
  refine .tup (SqT.of e) ?_
  induction ms generalizing a with
  | nil => exact .nil
  | cons n ms ih =>
    have : ∀ l : List Nat, DpAll K H (l.map nV) (l.map fun (n : Nat) => .int (n : Int)) := by
      intro l
      induction l with
      | nil => exact .nil
      | cons n l ih => exact .cons (.int _) ih
    exact this _
theorem ITs.dp {K : PySem.W.Frag} {H : Hp} {vs : List V} {l : List (List Nat)} (h : ITs H vs l) : DpAll K H vs (l.map tD) := by
  induction h with
  | nil => exact .nil
  | cons a t ih => exact .cons a.dp ih
theorem map_cast_lt : ∀ (a b : List Nat), (a.map fun (n : Nat) => (n : Int)) < (b.map fun (n : Nat) => (n : Int)) ↔ a < b := by
  intro a
  induction a with
  | nil =>
    intro b
    cases b with
    | nil => simp
    | cons y b => simp
  | cons x a ih =>
    intro b
    cases b with
    | nil => simp
    | cons y b =>
      rw [List.map_cons, List.map_cons, List.cons_lt_cons_iff, List.cons_lt_cons_iff, ih b]
      constructor
      · rintro (h | ⟨h1, h2⟩)
        · exact .inl (by omega)
        · exact .inr ⟨by omega, h2⟩
      · rintro (h | ⟨h1, h2⟩)
        · exact .inl (by omega)
        · exact .inr ⟨by omega, h2⟩
theorem tD_lt (a b : List Nat) : PySem.W.dataLt (tD a) (tD b) = decide (a < b) := by
  unfold tD
  rw [PySem.W.dataLt_tuple]
  have e : ∀ l : List Nat, (l.map fun (n : Nat) => PyData.int (n : Int)) = (l.map fun (n : Nat) => (n : Int)).map .int := fun l => by rw [List.map_map]; rfl
  have h := PySem.W.dataLt_ints (a.map fun (n : Nat) => (n : Int)) (b.map fun (n : Nat) => (n : Int))
  unfold PySem.W.rowLt at h
  rw [e a, e b, h]
  exact decide_eq_decide.mpr (map_cast_lt a b)
theorem sortV_it {H : Hp} {xs : List V} {l : List (List Nat)} (h : ITs H xs l) : ITs H (sortV xs (l.map tD)) (sortL l) := by
  have := sortV_paired (enc := tD) h
  unfold sortL
  simp only [tD_lt] at this
  exact this
theorem alike_t (a b : List Nat) : PySem.W.alike (tD a) (tD b) = true := by
  have : ∀ a b : List Nat, PySem.W.alikeAll (a.map fun (n : Nat) => PyData.int (n : Int)) (b.map fun (n : Nat) => PyData.int (n : Int)) = true := by
    intro a
    induction a with
    | nil => intro b; rfl
    | cons x a ih =>
      intro b
      cases b with
      | nil => rfl
      | cons y b => exact ih b
  exact this a b
theorem depth_t (a : List Nat) : (tD a).depth = 1 := by
  have : ∀ a : List Nat, PyData.depthAll (a.map fun (n : Nat) => PyData.int (n : Int)) = 0 := by
    intro a
    induction a with
    | nil => rfl
    | cons x a ih => show max _ _ = 0; rw [ih]; rfl
  show PyData.depthAll _ + 1 = 1
  rw [this]
theorem srt_t (l : List (List Nat)) : SrtOk (l.map tD) where
  al := PySem.W.AllAlike.of fun a b => alike_t a b
  kd := .inl fun d hd => by
    obtain ⟨a, _, rfl⟩ := List.mem_map.mp hd
    exact ⟨_, rfl⟩
  dp := fun d hd => by
    obtain ⟨a, _, rfl⟩ := List.mem_map.mp hd
    rw [depth_t]
    decide
theorem srt_n (l : List Nat) : SrtOk (l.map fun (n : Nat) => PyData.int (n : Int)) where
  al := PySem.W.AllAlike.of fun a b => rfl
  kd := .inr fun d hd => by
    obtain ⟨a, _, rfl⟩ := List.mem_map.mp hd
    exact ⟨(by intro z; cases z), (by intro xs z; cases z)⟩
  dp := fun d hd => by
    obtain ⟨a, _, rfl⟩ := List.mem_map.mp hd
    exact Nat.zero_le _
theorem dp_nv {K : PySem.W.Frag} {H : Hp} : ∀ l : List Nat, DpAll K H (l.map nV) (l.map fun (n : Nat) => .int (n : Int))
  | [] => .nil
  | _ :: l => .cons (.int _) (dp_nv l)
end MX
end

section
set_option Elab.async false
set_option linter.all false
set_option maxRecDepth 100000
set_option maxHeartbeats 4000000
namespace MX
open PySem PySem.Spec PyProof.Rows L2
section
variable {P : Program} {w : World} {K : PySem.W.Frag} {mg : Str → Option Value} {base : Heap} {f c : Addr} {fd : FuncData}
theorem kit_int_int {K : PySem.W.Frag} : PySem.W.kitOne K (.type "int") (.type "int") = some true := kit_ty (by decide +kernel)
theorem kit_int_bool {K : PySem.W.Frag} : PySem.W.kitOne K (.type "int") (.type "bool") = some false := kit_ty (by decide +kernel)
abbrev st_is_number : Stmt := topS 9
abbrev N_is_number : List Str := ["value", "low", "high"]
theorem sc_is_number : FnScope N_is_number ["value", "low", "high"] (defScope st_is_number) := ⟨rfl, rfl, rfl, by decide +kernel, rfl, by decide +kernel, by decide +kernel⟩
def sp_is_number : Sp := spR 3 (fun vs _ (x : Int × Int × Int) => vs = [.int x.1, .int x.2.1, .int x.2.2]) fun x v _ => v = .bl (decide (x.2.1 ≤ x.1) && decide (x.1 ≤ x.2.2))
theorem cal_is_number (F : FunC K mg "is_number" st_is_number f fd c) (B : Bi mg) : Cal P w K mg base 1 "is_number" ["value", "low", "high"] sp_is_number := by
  refine F.cal sc_is_number spR_len (fun _ _ _ _ _ _ us hl => match us, hl with | [_, _, _], _ => rfl) (fun A outer s H vs Q hr h => ?_) spR_E
  refine ⟨_, (pss_one (ps_ret (pe_and (pe_callB (call_isiK K) (by rfl) B.isi boot_isi (pa_cons (pv 0) (pa_cons (pe_bltn (v := .ty "int") (by rfl) B.int boot_int rfl) pa_nil))) (pe_and (pe_not (pe_callB (call_isiK K) (by rfl) B.isi boot_isi (pa_cons (pv 0) (pa_cons (pe_bltn (v := .ty "bool") (by rfl) B.bool boot_bool rfl) pa_nil)))) (pe_one (pe_chain op_le op_le (pv 1) (pv 0) (pv 2))))))), ?_⟩
  obtain ⟨_, ⟨a, b, d⟩, rfl, k⟩ := h
  refine ⟨_, rfl, _, _, _, _, _, rfl, .ty _, .base (.int _), kit_int_int, true, rfl, ?_⟩
  rw [if_pos rfl]
  refine ⟨_, rfl, _, _, _, _, _, rfl, .ty _, .base (.int _), kit_int_bool, false, rfl, true, rfl, ?_⟩
  rw [if_pos rfl]
  refine ⟨_, rfl, _, rfl, _, _, rfl, rfl, _, rfl, ?_⟩
  dsimp only
  cases e : decide (b ≤ a) with
  | false =>
    rw [if_neg (by decide)]
    exact k _ _ (Kp.refl _) (by dsimp only; rw [e]; rfl)
  | true =>
    rw [if_pos rfl]
    exact ⟨_, rfl, _, _, rfl, rfl, k _ _ (Kp.refl _) (by dsimp only; rw [e]; rfl)⟩
abbrev st_need_most : Stmt := topS 12
abbrev N_need_most : List Str := ["value"]
theorem sc_need_most : FnScope N_need_most ["value"] (defScope st_need_most) := ⟨rfl, rfl, rfl, by decide +kernel, rfl, by decide +kernel, by decide +kernel⟩
def sp_need_most : Sp := spR 1 (fun vs _ (x : Int) => vs = [.int x] ∧ 1 ≤ x ∧ x ≤ 3) fun _ v _ => v = .non
theorem cal_need_most (F : FunC K mg "need_most" st_need_most f fd c) (B : Bi mg) (C_is_number : Cal P w K mg base 1 "is_number" ["value", "low", "high"] sp_is_number) : Cal P w K mg base 2 "need_most" ["value"] sp_need_most := by
  refine F.cal sc_need_most spR_len (fun _ _ _ _ _ _ us hl => match us, hl with | [_], _ => rfl) (fun A outer s H vs Q hr h => ?_) spR_E
  refine ⟨_, (pss_one (ps_if (pt_not (pt_val (pe_cal C_is_number hr (by decide) (by rfl) (pa_cons (pv 0) (pa_cons pe_int (pa_cons (pe_glob (v := .int 3) (by rfl) B.msum.choose_spec ⟨_, rfl⟩) pa_nil)))))) (pss_one ps_never) pss_nil)), ?_⟩
  obtain ⟨_, x, ⟨rfl, h1, h2⟩, k⟩ := h
  refine ⟨_, rfl, rfl, (x, 1, 3), rfl, ?_⟩
  rintro v H1 k1 rfl
  refine ⟨_, rfl, ?_⟩
  have e : (decide (1 ≤ x) && decide (x ≤ 3)) = true := by simp [h1, h2]
  dsimp only
  rw [e]
  exact k _ _ k1 rfl
abbrev st_mask_of : Stmt := topS 13
abbrev N_mask_of : List Str := ["tablet", "text"]
theorem sc_mask_of : FnScope N_mask_of ["tablet"] (defScope st_mask_of) := ⟨rfl, rfl, rfl, by decide +kernel, rfl, by decide +kernel, by decide +kernel⟩
/-- the numbers of a tablet, small -/
def Sml (t : List Nat) : Prop := t.length ≤ 1000 ∧ ∀ k ∈ t, k ≤ 1000
theorem yes2 {σ : L2.St} {H : Hp} {P1 P2 : Hp → Prop} (h : P1 H) : tYes σ H (fun b H3 => if b = true then P1 H3 else P2 H3) := by
  show if true = true then P1 H else P2 H
  rw [if_pos rfl]
  exact h
theorem nz (n : Nat) : ((n : Int) != 0) = (n != 0) := by
  cases n with
  | zero => rfl
  | succ n => rfl
theorem ifT {c : Bool} {A B : Prop} (hc : c = true) (h : A) : if c = true then A else B := by rw [if_pos hc]; exact h
theorem ifF {c : Bool} {A B : Prop} (hc : c = false) (h : B) : if c = true then A else B := by rw [hc, if_neg Bool.false_ne_true]; exact h
theorem ite_b {b : Bool} {A C : Prop} (h1 : b = true → A) (h2 : b = false → C) : if b = true then A else C := by
  cases b with
  | true => rw [if_pos rfl]; exact h1 rfl
  | false => rw [if_neg Bool.false_ne_true]; exact h2 rfl
theorem fil_yes {α : Type} {p : α → Bool} {l : List α} {x : α} (h : p x = true) : (l ++ [x]).filter p = l.filter p ++ [x] := by rw [List.filter_append, List.filter_cons_of_pos h]; rfl
theorem fil_no {α : Type} {p : α → Bool} {l : List α} {x : α} (h : p x = false) : (l ++ [x]).filter p = l.filter p := by rw [List.filter_append, List.filter_cons_of_neg (by rw [h]; decide)]; exact List.append_nil _
theorem sl {n : Nat} (h : n ≤ 1000000) : n < sizeLine := by rw [sizeLine_eq]; omega
theorem sum_cast : ∀ l : List Nat, (l.map fun (n : Nat) => (n : Int)).sum = ((l.sum : Nat) : Int)
  | [] => rfl
  | n :: l => by rw [List.map_cons, List.sum_cons, List.sum_cons, sum_cast l]; omega
def sp_mask_of : Sp := spR 1 (fun vs H (x : List Nat) => ∃ v, vs = [v] ∧ IT H v x ∧ Sml x) fun x v _ => v = nV (maskOf x)
theorem cal_mask_of (F : FunC K mg "mask_of" st_mask_of f fd c) (B : Bi mg) : Cal P w K mg base 1 "mask_of" ["tablet"] sp_mask_of := by
  refine F.cal sc_mask_of spR_len (fun _ _ _ _ _ _ us hl => match us, hl with | [_], _ => rfl) (fun A outer s H vs Q hr h => ?_) spR_E
  refine ⟨_, (pss_one (ps_ret (pe_callB (cr_sumK K (hc := rfl)) (by rfl) B.sum boot_sum (pa_cons (pe_lc (own := [("text", 1)]) rfl sc_mask_of.nd (pi_tupK K (hl := (pv 0))) (blkOk_by (own := [("text", 1)]) (N := N_mask_of) (sc := defScope st_mask_of) (by decide +kernel)) (fun _ _ _ _ _ => (pg_name (i := 1) sc_mask_of.nd rfl (by first | exact Or.inl rfl | exact Or.inr rfl))) (fun _ _ _ _ _ => pts_nil) (fun _ _ _ _ _ => (pe_op op_shlNN pe_int (pv 1)))) pa_nil)))), ?_⟩
  obtain ⟨_, x, ⟨_, rfl, ⟨a, rfl, e⟩, s1, s2⟩, k⟩ := h
  refine ⟨_, rfl, a, rfl, ⟨_, SqT.of e⟩, fun D hD => ?_⟩
  refine lc_tup (xs := x.map nV) (fun i H' => AccI H D (fun _ v (n : Nat) => v = nV n) ((x.take i).map fun k => 1 <<< k) H') (AccI.zero hD) (fun i H' _ I => SqT.of (I.1.tup e)) ?_ ?_
  · intro i y H' hy I
    obtain ⟨n, hn, rfl⟩ := map_at hy
    refine ⟨rfl, yes2 ?_⟩
    refine ⟨_, rfl, n, rfl, rfl, s2 n (List.mem_of_getElem? hn), ?_⟩
    exact I.push stab_nv hD (Kp.refl _) rfl (sl (by rw [List.length_map, List.length_take]; omega)) (by rw [take_more hn, List.map_append]; rfl)
  · rintro H' ⟨kp, acc, hacc, p⟩
    rw [List.length_map, List.take_length] at p
    obtain rfl := nv_vals p
    refine ⟨_, (((x.map fun k => 1 <<< k).map fun (n : Nat) => (n : Int))), rfl, ?_, ?_⟩
    · rw [List.map_map]
      exact SqL.of hacc
    · rw [sum_cast]
      exact k _ _ kp rfl
abbrev st_tablet_of : Stmt := topS 14
abbrev N_tablet_of : List Str := ["mask", "text"]
theorem sc_tablet_of : FnScope N_tablet_of ["mask"] (defScope st_tablet_of) := ⟨rfl, rfl, rfl, by decide +kernel, rfl, by decide +kernel, by decide +kernel⟩
def sp_tablet_of : Sp := spR 1 (fun vs H (x : Nat) => vs = [nV x]) fun x v H => IT H v (tabletOf x)
theorem cal_tablet_of (F : FunC K mg "tablet_of" st_tablet_of f fd c) (B : Bi mg) : Cal P w K mg base 1 "tablet_of" ["mask"] sp_tablet_of := by
  refine F.cal sc_tablet_of spR_len (fun _ _ _ _ _ _ us hl => match us, hl with | [_], _ => rfl) (fun A outer s H vs Q hr h => ?_) spR_E
  refine ⟨_, (pss_one (ps_ret (pe_callTy (call_tuple_ofK K) (by rfl) B.tuple boot_tuple (pa_cons (pe_lc (own := [("text", 1)]) rfl sc_tablet_of.nd (pi_range1 (by rfl) B.range (pa_cons (pe_glob (v := .int 3) (by rfl) B.mtexts.choose_spec ⟨_, rfl⟩) pa_nil)) (blkOk_by (own := [("text", 1)]) (N := N_tablet_of) (sc := defScope st_tablet_of) (by decide +kernel)) (fun _ _ _ _ _ => (pg_name (i := 1) sc_tablet_of.nd rfl (by first | exact Or.inl rfl | exact Or.inr rfl))) (fun _ _ _ _ _ => (pts_one (pt_tru K (pe_op op_andN (pe_op op_shrNN (pv 0) (pv 1)) pe_int)))) (fun _ _ _ _ _ => (pv 1))) pa_nil)))), ?_⟩
  obtain ⟨_, x, rfl, k⟩ := h
  refine ⟨3, rfl, by decide, by decide, fun D hD => ?_⟩
  refine lc_range (lo := 0) (n := 3) (fun i H' => AccI H D (fun _ v (n : Nat) => v = nV n) ((List.range i).filter fun t => (x >>> t) &&& 1 != 0) H') (AccI.zero hD) ?_ ?_
  · intro i H' hi I
    refine ⟨rfl, ?_⟩
    refine ⟨_, rfl, _, rfl, x, i, rfl, (by show V.int (0 + _) = _; rw [Int.zero_add]), _, 1, rfl, rfl, ((x >>> i) &&& 1 != 0), (nz _).symm, ?_⟩
    refine ite_b (fun hb => ⟨_, rfl, ?_⟩) (fun hb => ?_)
    · exact I.push stab_nv hD (Kp.refl _) (by show V.int (0 + _) = _; rw [Int.zero_add]) (sl (Nat.le_trans (List.length_filter_le _ _) (by rw [List.length_range]; omega))) (by rw [List.range_succ]; exact fil_yes hb)
    · exact I.keep stab_nv (Kp.refl _) (by rw [List.range_succ]; exact fil_no hb)
  · rintro H' ⟨kp, acc, hacc, p⟩
    obtain rfl := nv_vals p
    refine ⟨_, _, rfl, .inl ⟨SqL.of hacc, fun l hl => ?_⟩⟩
    exact k _ _ (kp.trans (Kp.new hl)) ⟨l, rfl, upd_same⟩
abbrev st_masks_of : Stmt := topS 15
abbrev N_masks_of : List Str := ["library", "tablet"]
theorem sc_masks_of : FnScope N_masks_of ["library"] (defScope st_masks_of) := ⟨rfl, rfl, rfl, by decide +kernel, rfl, by decide +kernel, by decide +kernel⟩
/-- a library of few tablets of few texts -/
def LibOk (l : List (List Nat)) : Prop := l.length ≤ 1000 ∧ ∀ t ∈ l, Sml t
def sp_masks_of : Sp := spR 1 (fun vs H (x : Nat × List (List Nat)) => ∃ v, vs = [v] ∧ Lib H v x.1 x.2 ∧ LibOk x.2) fun x v H => IT H v (x.2.map maskOf)
theorem cal_masks_of (F : FunC K mg "masks_of" st_masks_of f fd c) (B : Bi mg) (C_mask_of : Cal P w K mg base 1 "mask_of" ["tablet"] sp_mask_of) : Cal P w K mg base 2 "masks_of" ["library"] sp_masks_of := by
  refine F.cal sc_masks_of spR_len (fun _ _ _ _ _ _ us hl => match us, hl with | [_], _ => rfl) (fun A outer s H vs Q hr h => ?_) spR_E
  refine ⟨_, (pss_one (ps_ret (pe_callTy (call_tuple_ofK K) (by rfl) B.tuple boot_tuple (pa_cons (pe_lc (own := [("tablet", 1)]) rfl sc_masks_of.nd (pi_tupK K (hl := (pe_ix (ix_tupK K) (pv 0) pe_int (fun _ _ => rfl)))) (blkOk_by (own := [("tablet", 1)]) (N := N_masks_of) (sc := defScope st_masks_of) (by decide +kernel)) (fun _ _ _ _ _ => (pg_name (i := 1) sc_masks_of.nd rfl (by first | exact Or.inl rfl | exact Or.inr rfl))) (fun _ _ _ _ _ => pts_nil) (fun _ _ _ _ _ => (pe_cal C_mask_of hr (by decide) (by rfl) (pa_cons (pv 1) pa_nil)))) pa_nil)))), ?_⟩
  obtain ⟨_, ⟨t, l⟩, ⟨_, rfl, ⟨a, b, xs, rfl, e1, e2, e3⟩, o1, o2⟩, k⟩ := h
  have o1 : l.length ≤ 1000 := o1
  refine ⟨_, rfl, a, _, 1, .ref b, rfl, rfl, SqT.of e1, atI_nat (j := 1) rfl, b, rfl, ⟨_, SqT.of e2⟩, fun D hD => ?_⟩
  refine lc_tup (xs := xs) (fun i H' => AccI H D (fun _ v (n : Nat) => v = nV n) ((l.take i).map maskOf) H') (AccI.zero hD) (fun i H' _ I => SqT.of (I.1.tup e2)) ?_ ?_
  · intro i y H' hy I
    obtain ⟨tb, htb, it⟩ := Paired.at' e3 hy
    refine ⟨rfl, yes2 ⟨_, rfl, rfl, tb, ⟨y, rfl, it.kp I.1, o2 tb (List.mem_of_getElem? htb)⟩, ?_⟩⟩
    rintro v H2 k2 rfl
    exact I.push stab_nv hD k2 rfl (sl (by rw [List.length_map, List.length_take]; omega)) (by rw [take_more htb, List.map_append]; rfl)
  · rintro H' ⟨kp, acc, hacc, p⟩
    rw [e3.length, List.take_length] at p
    obtain rfl := nv_vals p
    refine ⟨_, _, rfl, .inl ⟨SqL.of hacc, fun q hq => ?_⟩⟩
    exact k _ _ (kp.trans (Kp.new hq)) ⟨q, rfl, upd_same⟩
abbrev st_total : Stmt := topS 16
abbrev N_total : List Str := ["masks", "found", "mask"]
theorem sc_total : FnScope N_total ["masks"] (defScope st_total) := ⟨rfl, rfl, rfl, by decide +kernel, rfl, by decide +kernel, by decide +kernel⟩
def sp_total : Sp := spR 1 (fun vs H (x : List Nat) => ∃ v, vs = [v] ∧ LN H v x) fun x v _ => v = nV (totalOf x)
theorem cal_total (F : FunC K mg "total" st_total f fd c) (B : Bi mg) : Cal P w K mg base 1 "total" ["masks"] sp_total := by
  refine F.cal sc_total spR_len (fun _ _ _ _ _ _ us hl => match us, hl with | [_], _ => rfl) (fun A outer s H vs Q hr h => ?_) spR_E
  refine ⟨_, (pss_cons (ps_set (i := 1) sc_total.nd rfl (Or.inl rfl) pe_int)
  (pss_cons (ps_for PassesOwn.never rfl (pi_listK K (hl := (pv 0))) (pg_name (i := 2) sc_total.nd rfl (by first | exact Or.inl rfl | exact Or.inr rfl)) (pss_one (ps_aug (i := 1) sc_total.nd rfl (Or.inl rfl) (pv 2) iop_xorN)))
  (pss_one (ps_ret (pv 1))))), ?_⟩
  obtain ⟨_, x, ⟨_, rfl, a, rfl, e⟩, k⟩ := h
  refine ⟨_, rfl, a, rfl, ⟨_, SqL.of e⟩, for_list (K := K) (a := a) (xs := x.map nV) (fun i σ H' => ∃ o, σ = [some (.ref a), some (nV (totalOf (x.take i))), o] ∧ H' = H) ⟨none, rfl, rfl⟩ (fun i σ H' _ I => by obtain ⟨_, _, rfl⟩ := I; exact SqL.of e) ?_ ?_⟩
  · rintro i y σ H' hy ⟨o, rfl, rfl⟩
    obtain ⟨n, hn, rfl⟩ := map_at hy
    refine ⟨_, rfl, _, rfl, _, n, rfl, rfl, some (nV n), ?_, rfl⟩
    rw [take_more hn]
    unfold totalOf
    rw [List.foldl_append]
    rfl
  · rintro σ H' ⟨o, rfl, rfl⟩
    rw [List.length_map, List.take_length]
    exact ⟨_, rfl, k _ _ (Kp.refl _) rfl⟩
abbrev st_span : Stmt := topS 17
abbrev N_span : List Str := ["masks", "found", "mask", "one"]
theorem sc_span : FnScope N_span ["masks"] (defScope st_span) := ⟨rfl, rfl, rfl, by decide +kernel, rfl, by decide +kernel, by decide +kernel⟩
theorem span_len : ∀ (ms f : List Nat), (ms.foldl spanStep f).length ≤ f.length * 2 ^ ms.length
  | [], f => by simp
  | m :: ms, f => by
    rw [List.foldl_cons]
    refine Nat.le_trans (span_len ms (spanStep f m)) ?_
    have h : (spanStep f m).length ≤ f.length * 2 := by
      unfold spanStep
      split
      · omega
      · rw [List.length_append, List.length_map]
        omega
    rw [List.length_cons, Nat.pow_succ, Nat.mul_comm (2 ^ ms.length) 2, ← Nat.mul_assoc]
    exact Nat.mul_le_mul_right _ h
theorem span_le {ms : List Nat} (h : ms.length ≤ 9) (i : Nat) : (spanF (ms.take i)).length ≤ 512 := by
  refine Nat.le_trans (span_len _ _) ?_
  have h2 : (ms.take i).length ≤ 9 := by rw [List.length_take]; omega
  have h3 := Nat.pow_le_pow_right (n := 2) (by decide) h2
  have e : ([0] : List Nat).length = 1 := rfl
  rw [e, Nat.one_mul]
  exact Nat.le_trans h3 (by decide)
theorem inV_nat (n : Nat) (l : List Nat) : inV (nV n) (l.map nV) = decide (n ∈ l) := by
  unfold inV
  induction l with
  | nil => rfl
  | cons m l ih =>
    rw [List.map_cons, List.any_cons, ih]
    show ((m : Int) == (n : Int) || decide (n ∈ l)) = decide (n ∈ m :: l)
    by_cases h : n = m
    · subst h
      simp
    · have : ((m : Int) == (n : Int)) = false := beq_eq_false_iff_ne.mpr (by omega)
      rw [this]
      simp [h]
theorem flat_nat (l : List Nat) : (l.map nV).all flatV = true := by
  rw [List.all_eq_true]
  intro x hx
  obtain ⟨n, _, rfl⟩ := List.mem_map.mp hx
  rfl
def sp_span : Sp := spR 1 (fun vs H (x : List Nat) => ∃ v, vs = [v] ∧ IT H v x ∧ x.length ≤ 9) fun x v H => ∃ l, LN H v l ∧ l.length = (spanF x).length
theorem cal_span (F : FunC K mg "span" st_span f fd c) (B : Bi mg) : Cal P w K mg base 1 "span" ["masks"] sp_span := by
  refine F.cal sc_span spR_len (fun _ _ _ _ _ _ us hl => match us, hl with | [_], _ => rfl) (fun A outer s H vs Q hr h => ?_) spR_E
  refine ⟨_, (pss_cons (ps_set (i := 1) sc_span.nd rfl (Or.inl rfl) (pe_lst (pa_cons pe_int pa_nil)))
  (pss_cons (ps_for PassesOwn.never rfl (pi_tupK K (hl := (pv 0))) (pg_name (i := 2) sc_span.nd rfl (by first | exact Or.inl rfl | exact Or.inr rfl)) (pss_one (ps_if (pt_cmpR (op_notIn_seqK K) (pv 2) (pv 1) (by rfl)) (pss_one (ps_set (i := 1) sc_span.nd rfl (Or.inl rfl) (pe_op op_cat (pv 1) (pe_lc (own := [("one", 3)]) rfl sc_span.nd (pi_listK K (hl := (pv 1))) (blkOk_by (own := [("one", 3)]) (N := N_span) (sc := defScope st_span) (by decide +kernel)) (fun _ _ _ _ _ => (pg_name (i := 3) sc_span.nd rfl (by first | exact Or.inl rfl | exact Or.inr rfl))) (fun _ _ _ _ _ => pts_nil) (fun _ _ _ _ _ => (pe_op op_xorN (pv 3) (pv 2))))))) pss_nil)))
  (pss_one (ps_ret (pe_callB (cr_sortCK K (hc := (cl_seqK K)) (hu := un_of hr (by decide))) (by rfl) B.sorted boot_sorted (pa_cons (pv 1) pa_nil)))))), ?_⟩
  obtain ⟨_, x, ⟨_, rfl, ⟨a, rfl, e⟩, sz⟩, k⟩ := h
  refine ⟨by show 1 ≤ sizeLine; decide, fun d0 hd0 => ?_⟩
  refine ⟨_, rfl, a, rfl, ⟨_, SqT.of ((Kp.new hd0).tup e)⟩, for_tup (K := K) (a := a) (xs := x.map nV) (fun i σ H' => Kp H H' ∧ ∃ d o o2, σ = [some (.ref a), some (.ref d), o, o2] ∧ H' d = some (.lst ((spanF (x.take i)).map nV))) ⟨Kp.new hd0, d0, none, none, rfl, upd_same⟩ (fun i σ H' _ I => SqT.of (I.1.tup e)) ?_ ?_⟩
  · rintro i y σ H' hy ⟨kp, d, o, o2, rfl, hd⟩
    obtain ⟨n, hn, rfl⟩ := map_at hy
    refine ⟨_, rfl, _, rfl, d, _, rfl, .inl (SqL.of hd), rfl, flat_nat _, _, rfl, ?_⟩
    rw [inV_nat]
    have step : spanF (x.take (i + 1)) = spanStep (spanF (x.take i)) n := by rw [take_more hn]; unfold spanF; rw [List.foldl_append]; rfl
    have len := span_le sz i
    refine ite_b (fun hb => ?_) (fun hb => ?_)
    · have hm : n ∉ spanF (x.take i) := by simpa using hb
      refine ⟨_, rfl, _, rfl, d, rfl, ⟨_, SqL.of hd⟩, fun D hD => ?_⟩
      refine lc_list (xs := (spanF (x.take i)).map nV) (fun j H2 => AccI H' D (fun _ v (n : Nat) => v = nV n) (((spanF (x.take i)).take j).map fun o => o ^^^ n) H2) (AccI.zero hD) (fun j H2 _ I => SqL.of (I.1.lst hd)) ?_ ?_
      · intro j y H2 hy I
        obtain ⟨q, hq, rfl⟩ := map_at hy
        refine ⟨rfl, yes2 ⟨_, rfl, _, rfl, q, n, rfl, rfl, ?_⟩⟩
        exact I.push stab_nv hD (Kp.refl _) rfl (sl (by rw [List.length_map, List.length_take]; omega)) (by rw [take_more hq, List.map_append]; rfl)
      · rintro H2 ⟨k2, acc, hacc, p⟩
        rw [List.length_map, List.take_length] at p
        obtain rfl := nv_vals p
        refine ⟨d, D, _, _, rfl, rfl, k2.lst hd, hacc, by rw [sizeLine_eq, List.length_map, List.length_map, List.length_map]; omega, fun q hq => ?_⟩
        refine ⟨(kp.trans k2).trans (Kp.new hq), q, _, _, rfl, ?_⟩
        rw [step, spanStep, if_neg hm, List.map_append]
        exact upd_same
    · have hm : n ∈ spanF (x.take i) := by simpa using hb
      exact ⟨kp, d, _, _, rfl, by rw [step, spanStep, if_pos hm]; exact hd⟩
  · rintro σ H' ⟨kp, d, o, o2, rfl, hd⟩
    rw [List.length_map, List.take_length] at hd
    refine ⟨_, rfl, _, rfl, d, _, rfl, .inl (SqL.of hd), _, dp_nv _, srt_n _, fun p hp => ?_⟩
    have s := sortV_paired (enc := fun (n : Nat) => PyData.int (n : Int)) (vals_nv (spanF x))
    have s2 := nv_vals s
    exact k _ _ (kp.trans (Kp.new hp)) ⟨_, ⟨p, rfl, by rw [← s2]; exact upd_same⟩, by rw [List.length_mergeSort]⟩
abbrev st_has_all : Stmt := topS 18
abbrev N_has_all : List Str := ["texts", "masks"]
theorem sc_has_all : FnScope N_has_all ["texts", "masks"] (defScope st_has_all) := ⟨rfl, rfl, rfl, by decide +kernel, rfl, by decide +kernel, by decide +kernel⟩
def sp_has_all : Sp := spR 2 (fun vs H (x : Nat × List Nat) => ∃ v, vs = [nV x.1, v] ∧ IT H v x.2 ∧ x.2.length ≤ 9 ∧ x.1 ≤ 9) fun x v _ => v = .bl (hasAll x.1 x.2)
theorem cal_has_all (F : FunC K mg "has_all" st_has_all f fd c) (B : Bi mg) (C_span : Cal P w K mg base 1 "span" ["masks"] sp_span) : Cal P w K mg base 2 "has_all" ["texts", "masks"] sp_has_all := by
  refine F.cal sc_has_all spR_len (fun _ _ _ _ _ _ us hl => match us, hl with | [_, _], _ => rfl) (fun A outer s H vs Q hr h => ?_) spR_E
  refine ⟨_, (pss_one (ps_ret (pe_cmpR op_eq (pe_callB (call_len_seqK K) (by rfl) B.len PySem.boot_len (pa_cons (pe_cal C_span hr (by decide) (by rfl) (pa_cons (pv 1) pa_nil)) pa_nil)) (pe_op op_shlNN pe_int (pv 0)) (nomark _)))), ?_⟩
  obtain ⟨_, ⟨t, x⟩, ⟨v, rfl, e, sz, st⟩, k⟩ := h
  refine ⟨_, rfl, rfl, x, ⟨v, rfl, e, sz⟩, ?_⟩
  rintro u H1 k1 ⟨l, ⟨d, rfl, hd⟩, hl⟩
  refine ⟨d, _, rfl, .inl (SqL.of hd), _, rfl, t, rfl, rfl, Nat.le_trans (show t ≤ 9 from st) (by decide), rfl, ?_⟩
  refine k _ _ k1 ?_
  dsimp only
  rw [List.length_map, hl, dec_int]
  congr 1
  unfold hasAll
  rw [Bool.beq_eq_decide_eq]
  exact decide_eq_decide.mpr ⟨fun z => by omega, fun z => by omega⟩
abbrev st_rows_of : Stmt := topS 19
abbrev N_rows_of : List Str := ["numbers", "most", "found", "number", "row"]
theorem sc_rows_of : FnScope N_rows_of ["numbers", "most"] (defScope st_rows_of) := ⟨rfl, rfl, rfl, by decide +kernel, rfl, by decide +kernel, by decide +kernel⟩
theorem rows_len (most : Nat) : ∀ (ns : List Nat) (f : List (List Nat)), (ns.foldl (rowStep most) f).length ≤ f.length * 2 ^ ns.length
  | [], f => by simp
  | m :: ms, f => by
    rw [List.foldl_cons]
    refine Nat.le_trans (rows_len most ms (rowStep most f m)) ?_
    have h : (rowStep most f m).length ≤ f.length * 2 := by
      unfold rowStep
      rw [List.length_append, List.length_map]
      have := List.length_filter_le (fun r : List Nat => decide (r.length < most)) f
      omega
    rw [List.length_cons, Nat.pow_succ, Nat.mul_comm (2 ^ ms.length) 2, ← Nat.mul_assoc]
    exact Nat.mul_le_mul_right _ h
theorem rows_le {ns : List Nat} (h : ns.length ≤ 9) (most i : Nat) : (rowsF (ns.take i) most).length ≤ 512 := by
  refine Nat.le_trans (rows_len most _ _) ?_
  have h2 : (ns.take i).length ≤ 9 := by rw [List.length_take]; omega
  have h3 := Nat.pow_le_pow_right (n := 2) (by decide) h2
  have e : ([[]] : List (List Nat)).length = 1 := rfl
  rw [e, Nat.one_mul]
  exact Nat.le_trans h3 (by decide)
theorem rows_small (most : Nat) : ∀ (ns : List Nat) (f : List (List Nat)) (c : Nat), (∀ r ∈ f, r.length ≤ c) → ∀ r ∈ ns.foldl (rowStep most) f, r.length ≤ c + ns.length
  | [], f, c, h => h
  | n :: ns, f, c, h => by
    rw [List.foldl_cons]
    intro r hr
    have := rows_small most ns (rowStep most f n) (c + 1) (by
      intro r hr
      unfold rowStep at hr
      rcases List.mem_append.mp hr with h1 | h1
      · exact Nat.le_succ_of_le (h r h1)
      · obtain ⟨q, hq, rfl⟩ := List.mem_map.mp h1
        have := h q (List.mem_filter.mp hq).1
        rw [List.length_append]
        simp
        omega) r hr
    rw [List.length_cons]
    omega
/-- row + (n,) -/
theorem cat_one {K : PySem.W.Frag} {H : Hp} {v : V} {ms : List Nat} {n : Nat} {Q : VK} (h : IT H v ms) (hz : ms.length ≤ 1000) {q : Addr} (hq : H q = none) (k : ∀ u H2, Kp H H2 → IT H2 u (ms ++ [n]) → Q u H2) : rCatA K v (.ref q) (upd H q (.tup [nV n])) Q := by
  obtain ⟨a, rfl, e⟩ := h
  have e2 : upd H q (.tup [nV n]) a = some (.tup (ms.map nV)) := (Kp.new hq).tup e
  refine ⟨a, q, ms.map nV, [nV n], rfl, rfl, SqT.of e2, SqT.of upd_same, by rw [List.length_map, sizeLine_eq]; simp; omega, fun z => ?_, fun _ z => (by cases z), fun _ _ p hp => ?_⟩
  · refine k _ _ (Kp.new hq) ⟨q, rfl, ?_⟩
    rw [upd_same, List.map_append, z]
    rfl
  · refine k _ _ ((Kp.new hq).trans (Kp.new hp)) ⟨p, rfl, ?_⟩
    rw [upd_same, List.map_append]
    rfl
def sp_rows_of : Sp := spR 2 (fun vs H (x : List Nat × Nat) => ∃ v, vs = [v, nV x.2] ∧ LN H v x.1 ∧ x.1.length ≤ 9) fun x v H => LT H v (rowsOf x.1 x.2)
theorem cal_rows_of (F : FunC K mg "rows_of" st_rows_of f fd c) (B : Bi mg) : Cal P w K mg base 1 "rows_of" ["numbers", "most"] sp_rows_of := by
  refine F.cal sc_rows_of spR_len (fun _ _ _ _ _ _ us hl => match us, hl with | [_, _], _ => rfl) (fun A outer s H vs Q hr h => ?_) spR_E
  refine ⟨_, (pss_cons (ps_set (i := 2) sc_rows_of.nd rfl (Or.inl rfl) (pe_lst (pa_cons (pe_tup pa_nil) pa_nil)))
  (pss_cons (ps_for PassesOwn.never rfl (pi_listK K (hl := (pv 0))) (pg_name (i := 3) sc_rows_of.nd rfl (by first | exact Or.inl rfl | exact Or.inr rfl)) (pss_one (ps_aug (i := 2) sc_rows_of.nd rfl (Or.inl rfl) (pe_lc (own := [("row", 4)]) rfl sc_rows_of.nd (pi_listK K (hl := (pv 2))) (blkOk_by (own := [("row", 4)]) (N := N_rows_of) (sc := defScope st_rows_of) (by decide +kernel)) (fun _ _ _ _ _ => (pg_name (i := 4) sc_rows_of.nd rfl (by first | exact Or.inl rfl | exact Or.inr rfl))) (fun _ _ _ _ _ => (pts_one (pt_cmpR op_lt (pe_callB (call_len_seqK K) (by rfl) B.len PySem.boot_len (pa_cons (pv 4) pa_nil)) (pv 1) (nomark _)))) (fun _ _ _ _ _ => (pe_op (op_catAK K) (pv 4) (pe_tup (pa_cons (pv 3) pa_nil))))) iop_ext)))
  (pss_one (ps_ret (pe_callB (cr_sortCK K (hc := (cl_seqK K)) (hu := un_of hr (by decide))) (by rfl) B.sorted boot_sorted (pa_cons (pv 2) pa_nil)))))), ?_⟩
  obtain ⟨_, ⟨l, most⟩, ⟨_, rfl, ⟨a, rfl, e⟩, sz⟩, k⟩ := h
  have sz : l.length ≤ 9 := sz
  have e : H a = some (.lst (l.map nV)) := e
  refine ⟨Nat.zero_le _, fun p0 hp0 => ⟨by show 1 ≤ sizeLine; decide, fun d0 hd0 => ?_⟩⟩
  have kp0 := (Kp.new (o := .tup []) hp0).trans (Kp.new (o := .lst [.ref p0]) hd0)
  have hd00 : H d0 = none := (Kp.new hp0).free hd0
  refine ⟨_, rfl, a, rfl, ⟨_, SqL.of (kp0.lst e)⟩, for_list (K := K) (a := a) (xs := l.map nV) (fun i σ H' => Kp H H' ∧ ∃ o o2 vs, σ = [some (.ref a), some (nV most), some (.ref d0), o, o2] ∧ H' d0 = some (.lst vs) ∧ ITs H' vs (rowsF (l.take i) most))
    ⟨kp0, none, none, _, rfl, upd_same, .cons ⟨p0, rfl, by rw [upd_ne (ne_of_none upd_same hd0)]; exact upd_same⟩ .nil⟩ (fun i σ H' _ I => SqL.of (I.1.lst e)) ?_ ?_⟩
  · rintro i y σ H' hy ⟨kp, o, o2, vs, rfl, hd, its⟩
    obtain ⟨n, hn, rfl⟩ := map_at hy
    have step : rowsF (l.take (i + 1)) most = rowStep most (rowsF (l.take i) most) n := by rw [take_more hn]; unfold rowsF; rw [List.foldl_append]; rfl
    have len := rows_le sz most i
    have small := rows_small most (l.take i) [[]] 0 (by simp)
    have lt9 : (l.take i).length ≤ 9 := by rw [List.length_take]; omega
    refine ⟨_, rfl, _, rfl, d0, rfl, ⟨_, SqL.of hd⟩, fun D hD => ?_⟩
    refine lc_list (xs := vs) (fun j H2 => AccI H' D IT ((((rowsF (l.take i) most).take j).filter fun r => decide (r.length < most)).map fun r => r ++ [n]) H2) (AccI.zero hD) (fun j H2 _ I => SqL.of (I.1.lst hd)) ?_ ?_
    · intro j y H2 hy I
      obtain ⟨r, hr, it⟩ := Paired.at' its hy
      have rl := small r (List.mem_of_getElem? hr)
      obtain ⟨b, rfl, eb⟩ := it
      have eb := I.1.tup eb
      refine ⟨rfl, _, rfl, b, _, rfl, .inr (SqT.of eb), _, rfl, _, _, rfl, rfl, _, rfl, ?_⟩
      have e3 : decide (((r.map nV).length : Int) < (most : Int)) = decide (r.length < most) := by rw [List.length_map]; exact decide_eq_decide.mpr (by omega)
      rw [e3]
      refine ite_b (fun hb => ⟨_, rfl, _, rfl, by show 1 ≤ sizeLine; decide, fun q hq => ?_⟩) (fun hb => ?_)
      · refine cat_one ⟨b, rfl, eb⟩ (by omega) hq fun u H3 k3 iu => ?_
        exact I.push stab_it hD k3 iu (sl (by rw [List.length_map]; exact Nat.le_trans (List.length_filter_le _ _) (by rw [List.length_take]; omega))) (by rw [take_more hr, fil_yes (p := fun r : List Nat => decide (r.length < most)) hb, List.map_append]; rfl)
      · exact I.keep stab_it (Kp.refl _) (by rw [take_more hr, fil_no (p := fun r : List Nat => decide (r.length < most)) hb])
    · rintro H2 ⟨k2, acc, hacc, p⟩
      rw [its.length, List.take_length] at p
      refine ⟨d0, D, vs, acc, rfl, rfl, k2.lst hd, hacc, ?_, ?_⟩
      · rw [its.length, p.length, List.length_map, sizeLine_eq]
        have := List.length_filter_le (fun r : List Nat => decide (r.length < most)) (rowsF (l.take i) most)
        omega
      · have t2 : Tk H2 (upd H2 d0 (.lst (vs ++ acc))) := Tk.lst (k2.lst hd)
        refine ⟨(kp.trans k2).put hd00, _, _, vs ++ acc, rfl, upd_same, ?_⟩
        rw [step]
        exact Paired.app (ITs.tk its (k2.tk.trans t2)) (ITs.tk p t2)
  · rintro σ H' ⟨kp, o, o2, vs, rfl, hd, its⟩
    rw [List.length_map, List.take_length] at its
    refine ⟨_, rfl, _, rfl, d0, _, rfl, .inl (SqL.of hd), _, its.dp, srt_t _, fun p hp => ?_⟩
    exact k _ _ (kp.trans (Kp.new hp)) ⟨p, _, rfl, upd_same, (sortV_it its).tk (Tk.new hp)⟩
abbrev st_library_of : Stmt := topS 20
abbrev N_library_of : List Str := ["texts", "masks", "mask"]
theorem sc_library_of : FnScope N_library_of ["texts", "masks"] (defScope st_library_of) := ⟨rfl, rfl, rfl, by decide +kernel, rfl, by decide +kernel, by decide +kernel⟩
def sp_library_of : Sp := spR 2 (fun vs H (x : Nat × List Nat) => ∃ v, vs = [nV x.1, v] ∧ IT H v x.2 ∧ x.2.length ≤ 1000) fun x v H => Lib H v x.1 (x.2.map tabletOf)
theorem cal_library_of (F : FunC K mg "library_of" st_library_of f fd c) (B : Bi mg) (C_tablet_of : Cal P w K mg base 1 "tablet_of" ["mask"] sp_tablet_of) : Cal P w K mg base 2 "library_of" ["texts", "masks"] sp_library_of := by
  refine F.cal sc_library_of spR_len (fun _ _ _ _ _ _ us hl => match us, hl with | [_, _], _ => rfl) (fun A outer s H vs Q hr h => ?_) spR_E
  refine ⟨_, (pss_one (ps_ret (pe_tup (pa_cons (pv 0) (pa_cons (pe_callTy (call_tuple_ofK K) (by rfl) B.tuple boot_tuple (pa_cons (pe_lc (own := [("mask", 2)]) rfl sc_library_of.nd (pi_tupK K (hl := (pv 1))) (blkOk_by (own := [("mask", 2)]) (N := N_library_of) (sc := defScope st_library_of) (by decide +kernel)) (fun _ _ _ _ _ => (pg_name (i := 2) sc_library_of.nd rfl (by first | exact Or.inl rfl | exact Or.inr rfl))) (fun _ _ _ _ _ => pts_nil) (fun _ _ _ _ _ => (pe_cal C_tablet_of hr (by decide) (by rfl) (pa_cons (pv 2) pa_nil)))) pa_nil)) pa_nil))))), ?_⟩
  obtain ⟨_, ⟨t, l⟩, ⟨_, rfl, ⟨a, rfl, e⟩, sz⟩, k⟩ := h
  have sz : l.length ≤ 1000 := sz
  refine ⟨_, rfl, _, rfl, a, rfl, ⟨_, SqT.of e⟩, fun D hD => ?_⟩
  refine lc_tup (xs := l.map nV) (fun i H' => AccI H D IT ((l.take i).map tabletOf) H') (AccI.zero hD) (fun i H' _ I => SqT.of (I.1.tup e)) ?_ ?_
  · intro i y H' hy I
    obtain ⟨n, hn, rfl⟩ := map_at hy
    refine ⟨rfl, yes2 ⟨_, rfl, rfl, n, rfl, ?_⟩⟩
    intro v H2 k2 iv
    exact I.push stab_it hD k2 iv (sl (by rw [List.length_map, List.length_take]; omega)) (by rw [take_more hn, List.map_append]; rfl)
  · rintro H' ⟨kp, acc, hacc, p⟩
    rw [List.length_map, List.take_length] at p
    refine ⟨D, _, rfl, .inl ⟨SqL.of hacc, fun q hq => ⟨by show 2 ≤ sizeLine; decide, fun r hr => ?_⟩⟩⟩
    refine k _ _ ((kp.trans (Kp.new hq)).trans (Kp.new hr)) ⟨r, q, acc, rfl, upd_same, ?_, ?_⟩
    · rw [upd_ne (ne_of_none upd_same hr)]
      exact upd_same
    · exact ITs.tk p ((Tk.new hq).trans (Tk.new hr))
end
end MX
end

section
set_option Elab.async false
set_option linter.all false
set_option maxRecDepth 100000
set_option maxHeartbeats 4000000
namespace MX
open PySem PySem.Spec PyProof.Rows L2
/-! ### loops of a comprehension: S what one turn does -/
section
variable {K : PySem.W.Frag} {H0 : Hp} {Qd : Hp → Prop} {S : V → Hp → (Hp → Prop) → Prop}
/-- the turns, told for an iterator J of n items -/
theorem turns_by {J : It} {n : Nat} (Pv : Nat → Hp → Prop) (h0 : Pv 0 H0) (hgo : ∀ i H, i < n → Pv i H → J.go i H) (hst : ∀ H, Pv n H → J.stop n H) (hs : ∀ i x H H', i < n → Pv i H → J.yld i H x H' → S x H' (Pv (i + 1))) (hd : ∀ H, Pv n H → Qd H) :
    ∃ W : Nat → Nat → Hp → Prop, (∃ m, W 0 m H0) ∧ ∀ i m H, W i m H → (J.stop i H ∧ Qd H) ∨ (J.go i H ∧ ∃ Nx : Hp → Prop, (∀ H', Nx H' → ∃ m', m' < m ∧ W (i + 1) m' H') ∧ ∀ x H', J.yld i H x H' → S x H' Nx) := by
  refine ⟨fun i m H => m + i = n ∧ Pv i H, ⟨n, rfl, h0⟩, ?_⟩
  rintro i m H ⟨e, p⟩
  cases m with
  | zero =>
    obtain rfl : i = n := by omega
    exact Or.inl ⟨hst H p, hd H p⟩
  | succ m => exact Or.inr ⟨hgo i H (by omega) p, Pv (i + 1), fun H' p' => ⟨m, Nat.lt_succ_self _, by omega, p'⟩, fun x H' y => hs i x H H' (by omega) p y⟩
theorem turns_list {a : Addr} {xs : List V} (Pv : Nat → Hp → Prop) (h0 : Pv 0 H0) (hl : ∀ i H, Pv i H → SqL K H a xs) (hs : ∀ i x H, xs[i]? = some x → Pv i H → S x H (Pv (i + 1))) (hd : ∀ H, Pv xs.length H → Qd H) :
    ∃ W : Nat → Nat → Hp → Prop, (∃ m, W 0 m H0) ∧ ∀ i m H, W i m H → ((Itl K a).stop i H ∧ Qd H) ∨ ((Itl K a).go i H ∧ ∃ Nx : Hp → Prop, (∀ H', Nx H' → ∃ m', m' < m ∧ W (i + 1) m' H') ∧ ∀ x H', (Itl K a).yld i H x H' → S x H' Nx) := by
  refine turns_by (n := xs.length) Pv h0 (fun i H hi p => ⟨xs, _, hl i H p, List.getElem?_eq_getElem hi⟩) (fun H p => ⟨xs, hl _ H p, Nat.le_refl _⟩) ?_ hd
  rintro i x H H' hi p ⟨rfl, y⟩
  exact hs i x _ (y xs (hl i _ p)) p
theorem turns_tup {a : Addr} {xs : List V} (Pv : Nat → Hp → Prop) (h0 : Pv 0 H0) (hl : ∀ i H, Pv i H → SqT K H a xs) (hs : ∀ i x H, xs[i]? = some x → Pv i H → S x H (Pv (i + 1))) (hd : ∀ H, Pv xs.length H → Qd H) :
    ∃ W : Nat → Nat → Hp → Prop, (∃ m, W 0 m H0) ∧ ∀ i m H, W i m H → ((Itt K a).stop i H ∧ Qd H) ∨ ((Itt K a).go i H ∧ ∃ Nx : Hp → Prop, (∀ H', Nx H' → ∃ m', m' < m ∧ W (i + 1) m' H') ∧ ∀ x H', (Itt K a).yld i H x H' → S x H' Nx) := by
  refine turns_by (n := xs.length) Pv h0 (fun i H hi p => ⟨xs, _, hl i H p, List.getElem?_eq_getElem hi⟩) (fun H p => ⟨xs, hl _ H p, Nat.le_refl _⟩) ?_ hd
  rintro i x H H' hi p ⟨rfl, y⟩
  exact hs i x _ (y xs (hl i _ p)) p
end
/-! ### keys -/
/-- a tuple of numbers as a dict's key -/
def kM (ms : List Nat) : List Key := ms.map fun (n : Nat) => Sum.inl (n : Int)
theorem kM_kV (ms : List Nat) : (kM ms).map kV = ms.map nV := by
  unfold kM
  rw [List.map_map]
  rfl
theorem kM_inj : ∀ {a b : List Nat}, kM a = kM b → a = b
  | [], [], _ => rfl
  | [], _ :: _, h => by cases h
  | _ :: _, [], h => by cases h
  | x :: a, y :: b, h => by
    unfold kM at h
    rw [List.map_cons, List.map_cons] at h
    injection h with h1 h2
    injection h1 with h1
    rw [kM_inj (a := a) (b := b) h2, show x = y by omega]
theorem IT.key {H : Hp} {v : V} {ms : List Nat} (h : IT H v ms) : ∃ b, v = .ref b ∧ H b = some (.tup ((kM ms).map kV)) := by
  obtain ⟨b, rfl, e⟩ := h
  exact ⟨b, rfl, by rw [kM_kV]; exact e⟩
theorem IT.of_key {H : Hp} {b : Addr} {ms : List Nat} (h : H b = some (.tup ((kM ms).map kV))) : IT H (.ref b) ms := ⟨b, rfl, by rw [← kM_kV]; exact h⟩
/-- a dict's pairs -/
def kP (l : List (List Nat × V)) : List (List Key × V) := l.map fun p => (kM p.1, p.2)
/-- the value at a key -/
def atN (l : List (List Nat × V)) (k : List Nat) : Option V := valV l k
theorem val_kP (l : List (List Nat × V)) (k : List Nat) : valV (kP l) (kM k) = valV l k := by
  unfold valV kP
  rw [List.find?_map, Option.map_map]
  congr 1
  congr 1
  funext p
  exact decide_eq_decide.mpr ⟨kM_inj, fun h => congrArg kM h⟩
theorem put_kP (l : List (List Nat × V)) (k : List Nat) (v : V) : putK (kP l) (kM k) v = kP (putK l k v) := by
  have e1 : ((kP l).any fun kv => decide (kv.1 = kM k)) = (l.any fun kv => decide (kv.1 = k)) := by
    rw [valV_any, valV_any, val_kP]
  unfold putK
  rw [e1]
  split
  · unfold kP
    rw [List.map_map, List.map_map]
    apply List.map_congr_left
    intro p _
    show (if kM p.1 = kM k then (kM p.1, v) else (kM p.1, p.2)) = (fun p => (kM p.1, p.2)) (if p.1 = k then (p.1, v) else p)
    by_cases h : p.1 = k
    · rw [if_pos h, if_pos (show kM p.1 = kM k by rw [h])]
    · rw [if_neg h, if_neg fun z => h (kM_inj z)]
  · unfold kP
    rw [List.map_append]
    rfl
/-- a dict that is a set: every value True -/
def kS (l : List (List Nat)) : List (List Key × V) := l.map fun ms => (kM ms, .bl true)
theorem kS_put (l : List (List Nat)) (k : List Nat) : putK (kS l) (kM k) (.bl true) = kS (putN l k) := by
  have e1 : ((kS l).any fun kv => decide (kv.1 = kM k)) = decide (k ∈ l) := by
    unfold kS
    rw [List.any_map]
    induction l with
    | nil => rfl
    | cons m l ih =>
      rw [List.any_cons, ih]
      show (decide (kM m = kM k) || decide (k ∈ l)) = _
      by_cases h : k = m
      · subst h
        simp
      · have : ¬ kM m = kM k := fun z => h (kM_inj z).symm
        simp [this, h]
  unfold putK putN
  rw [e1]
  by_cases h : k ∈ l
  · rw [if_pos (decide_eq_true h), if_pos h]
    unfold kS
    rw [List.map_map]
    apply List.map_congr_left
    intro p _
    show (if kM p = kM k then (kM p, V.bl true) else (kM p, V.bl true)) = _
    split <;> rfl
  · rw [if_neg (by simpa using h), if_neg h]
    unfold kS
    rw [List.map_append]
    rfl
theorem kS_len (l : List (List Nat)) : (kS l).length = l.length := by unfold kS; rw [List.length_map]
theorem putN_len {α : Type} [DecidableEq α] (l : List α) (x : α) : (putN l x).length ≤ l.length + 1 := by
  unfold putN
  split
  · omega
  · rw [List.length_append]
    simp
theorem putNs_len {α : Type} [DecidableEq α] : ∀ (xs l : List α), (xs.foldl putN l).length ≤ l.length + xs.length
  | [], l => by simp
  | x :: xs, l => by
    rw [List.foldl_cons, List.length_cons]
    have h1 := putNs_len xs (putN l x)
    have h2 := putN_len l x
    omega
/-- the keys' own tuples -/
theorem keys_its {H : Hp} : ∀ {l : List (List Nat)} {bs : List Addr}, IsKeys H (kS l) bs → ITs H (bs.map V.ref) l
  | [], _, h => by
    cases h
    exact .nil
  | m :: l, _, h => by
    cases h with
    | cons a t => exact .cons (IT.of_key a) (keys_its t)
/-! ### an iterable dict just made: it stays locked -/
section
variable {X : Cx}
def iKeysF (td : TE) : TI := fun σ H R => td σ H fun x H1 => ∃ d kvs, x = .ref d ∧ H1 d = some (.dK kvs) ∧ ∀ o, R (Itk d o kvs) (upd H1 d (.frz o (.dK kvs)))
theorem pi_keysF {tg e : Expr} {td : TE} (he : PE X e td) : PI X tg e (iKeysF td) := by
  constructor
  intro pins s σ H R I h
  refine thn (he.run pins s σ H _ I h) ?_
  rintro u s1 ⟨x, H1, I1, rx, d, kvs, rfl, hd, q⟩
  obtain rfl : u = Value.ref d := rx
  obtain ⟨o, I2⟩ := I1.lock hd True.intro
  obtain ⟨hs, hgd, hx, es, ep, vs, hdt, hsz, kv, hm⟩ := I2.frzK (show (upd H1 d (.frz o (.dK kvs))) d = _ from upd_same)
  refine iter_keys hs hgd hx hdt (pi_one (tk := s1.toks) I2 _ (turn_keys _ hdt) ⟨_, Heap.get?_push_size _ rfl, rfl, ?_⟩ (q o))
  rw [hsz]
  rfl
end
/-! ### a for loop's turns -/
section
variable {g : TG} {tb : TS} {D : Ends} {σ0 : L2.St} {H0 : Hp}
theorem loop_by {J : It} {n : Nat} (Pv : Nat → L2.St → Hp → Prop) (h0 : Pv 0 σ0 H0) (hgo : ∀ i σ H, i < n → Pv i σ H → J.go i H) (hst : ∀ σ H, Pv n σ H → J.stop n H)
    (hs : ∀ i x σ H H', i < n → Pv i σ H → J.yld i H x H' → g x σ H' fun σ2 H2 => tb { D with nx := Pv (i + 1), ct := Pv (i + 1), bk := D.nx } σ2 H2) (hd : ∀ σ H, Pv n σ H → D.nx σ H) :
    ∃ W : Nat → Nat → L2.St → Hp → Prop, (∃ m, W 0 m σ0 H0) ∧ ∀ i m σ H, W i m σ H → (J.stop i H ∧ D.nx σ H) ∨ (J.go i H ∧ ∃ N : L2.St → Hp → Prop, (∀ σ' H', N σ' H' → ∃ m', m' < m ∧ W (i + 1) m' σ' H') ∧ ∀ x H', J.yld i H x H' → g x σ H' fun σ2 H2 => tb { D with nx := N, ct := N, bk := D.nx } σ2 H2) := by
  refine ⟨fun i m σ H => m + i = n ∧ Pv i σ H, ⟨n, rfl, h0⟩, ?_⟩
  rintro i m σ H ⟨e, p⟩
  cases m with
  | zero =>
    obtain rfl : i = n := by omega
    exact Or.inl ⟨hst σ H p, hd σ H p⟩
  | succ m => exact Or.inr ⟨hgo i σ H (by omega) p, Pv (i + 1), fun σ' H' p' => ⟨m, Nat.lt_succ_self _, by omega, p'⟩, fun x H' y => hs i x σ H H' (by omega) p y⟩
/-- over the locked dict at d, its keys tuples of numbers -/
theorem loop_keys {d : Addr} {o : Obj} {kvs : List (List Key × V)} (Pv : Nat → L2.St → Hp → Prop) (h0 : Pv 0 σ0 H0) (hf : ∀ i σ H, Pv i σ H → H d = some (.frz o (.dT kvs)))
    (hs : ∀ i k v q σ H, kvs[i]? = some (k, v) → H q = some (.tup (k.map kV)) → Pv i σ H → g (.ref q) σ H fun σ2 H2 => tb { D with nx := Pv (i + 1), ct := Pv (i + 1), bk := D.nx } σ2 H2) (hd : ∀ σ H, Pv kvs.length σ H → D.nx σ H) :
    ∃ W : Nat → Nat → L2.St → Hp → Prop, (∃ m, W 0 m σ0 H0) ∧ ∀ i m σ H, W i m σ H → ((Itkt d o kvs).stop i H ∧ D.nx σ H) ∨ ((Itkt d o kvs).go i H ∧ ∃ N : L2.St → Hp → Prop, (∀ σ' H', N σ' H' → ∃ m', m' < m ∧ W (i + 1) m' σ' H') ∧ ∀ x H', (Itkt d o kvs).yld i H x H' → g x σ H' fun σ2 H2 => tb { D with nx := N, ct := N, bk := D.nx } σ2 H2) := by
  refine loop_by (n := kvs.length) Pv h0 (fun i σ H hi p => ⟨hf i σ H p, hi⟩) (fun σ H p => ⟨hf _ σ H p, Nat.le_refl _⟩) ?_ hd
  rintro i x σ H H' hi p ⟨rfl, k, v, q, e, rfl, hq⟩
  exact hs i k v q σ _ e hq p
/-- over the locked dict at d, its keys numbers -/
theorem loop_keysK {d : Addr} {o : Obj} {kvs : List (Key × V)} (Pv : Nat → L2.St → Hp → Prop) (h0 : Pv 0 σ0 H0) (hf : ∀ i σ H, Pv i σ H → H d = some (.frz o (.dK kvs)))
    (hs : ∀ i k v σ H, kvs[i]? = some (k, v) → Pv i σ H → g (kV k) σ H fun σ2 H2 => tb { D with nx := Pv (i + 1), ct := Pv (i + 1), bk := D.nx } σ2 H2) (hd : ∀ σ H, Pv kvs.length σ H → D.nx σ H) :
    ∃ W : Nat → Nat → L2.St → Hp → Prop, (∃ m, W 0 m σ0 H0) ∧ ∀ i m σ H, W i m σ H → ((Itk d o kvs).stop i H ∧ D.nx σ H) ∨ ((Itk d o kvs).go i H ∧ ∃ N : L2.St → Hp → Prop, (∀ σ' H', N σ' H' → ∃ m', m' < m ∧ W (i + 1) m' σ' H') ∧ ∀ x H', (Itk d o kvs).yld i H x H' → g x σ H' fun σ2 H2 => tb { D with nx := N, ct := N, bk := D.nx } σ2 H2) := by
  refine loop_by (n := kvs.length) Pv h0 (fun i σ H hi p => ⟨hf i σ H p, hi⟩) (fun σ H p => ⟨hf _ σ H p, Nat.le_refl _⟩) ?_ hd
  rintro i x σ H H' hi p ⟨rfl, k, v, e, rfl⟩
  exact hs i k v σ _ e p
end
/-- the comprehension's turns over the keys of the locked dict at d -/
theorem turns_keys {H0 : Hp} {Qd : Hp → Prop} {S : V → Hp → (Hp → Prop) → Prop} {d : Addr} {o : Obj} {kvs : List (List Key × V)} (Pv : Nat → Hp → Prop) (h0 : Pv 0 H0) (hf : ∀ i H, Pv i H → H d = some (.frz o (.dT kvs)))
    (hs : ∀ i k v q H, kvs[i]? = some (k, v) → H q = some (.tup (k.map kV)) → Pv i H → S (.ref q) H (Pv (i + 1))) (hd : ∀ H, Pv kvs.length H → Qd H) :
    ∃ W : Nat → Nat → Hp → Prop, (∃ m, W 0 m H0) ∧ ∀ i m H, W i m H → ((Itkt d o kvs).stop i H ∧ Qd H) ∨ ((Itkt d o kvs).go i H ∧ ∃ Nx : Hp → Prop, (∀ H', Nx H' → ∃ m', m' < m ∧ W (i + 1) m' H') ∧ ∀ x H', (Itkt d o kvs).yld i H x H' → S x H' Nx) := by
  refine turns_by (n := kvs.length) Pv h0 (fun i H hi p => ⟨hf i H p, hi⟩) (fun H p => ⟨hf _ H p, Nat.le_refl _⟩) ?_ hd
  rintro i x H H' hi p ⟨rfl, k, v, q, e, rfl, hq⟩
  exact hs i k v q _ e hq p
end MX
end

section
set_option Elab.async false
set_option linter.all false
set_option maxRecDepth 100000
set_option maxHeartbeats 4000000
namespace MX
open PySem PySem.Spec PyProof.Rows L2
section
variable {P : Program} {w : World} {K : PySem.W.Frag} {mg : Str → Option Value} {base : Heap} {f c : Addr} {fd : FuncData}
/-! ### in_order -/
theorem srt_tab (l : List Nat) : SrtOk (l.map fun n => tD (tabletOf n)) := by
  have h := srt_t (l.map tabletOf)
  rw [List.map_map] at h
  exact h
theorem sort_order {xs : List V} {l : List Nat} (h : Paired (fun v (n : Nat) => v = nV n) xs l) : sortV xs (l.map fun n => tD (tabletOf n)) = (inOrder l).map nV := by
  have s := sortV_paired (enc := fun n => tD (tabletOf n)) h
  simp only [tD_lt] at s
  exact nv_vals s
abbrev st_in_order : Stmt := topS 26
abbrev N_in_order : List Str := ["masks"]
theorem sc_in_order : FnScope N_in_order ["masks"] (defScope st_in_order) := ⟨rfl, rfl, rfl, by decide +kernel, rfl, by decide +kernel, by decide +kernel⟩
def sp_in_order : Sp := spR 1 (fun vs H (x : List Nat) => ∃ v, vs = [v] ∧ (IT H v x ∨ LN H v x)) fun x v H => IT H v (inOrder x)
theorem cal_in_order (F : FunC K mg "in_order" st_in_order f fd c) (B : Bi mg) (C_tablet_of : Cal P w K mg base 1 "tablet_of" ["mask"] sp_tablet_of) : Cal P w K mg base 4 "in_order" ["masks"] sp_in_order := by
  obtain ⟨f_tablet_of, fdT, F_tablet_of, g_tablet_of, _, b_tablet_of⟩ := C_tablet_of.ex
  refine F.cal sc_in_order spR_len (fun _ _ _ _ _ _ us hl => match us, hl with | [_], _ => rfl) (fun A outer s H vs Q hr h => ?_) spR_E
  refine ⟨_, (pss_one (ps_ret (pe_callTy (call_tuple_ofK K) (by rfl) B.tuple boot_tuple (pa_cons (pe_callBK (cr_sortKK K (F := F_tablet_of) (hr := hr.mono (by decide)) (hb := b_tablet_of) (hc := (cl_seqK K)) (hu := un_of hr (by decide))) (by rfl) B.sorted boot_sorted (pa_cons (pv 0) pa_nil) (pk_cons (pe_glob (v := .ref f_tablet_of) (by rfl) g_tablet_of rfl) pk_nil)) pa_nil)))), ?_⟩
  obtain ⟨_, x, ⟨v, rfl, hv⟩, k⟩ := h
  have src : ∃ a, v = .ref a ∧ (SqL K H a (x.map nV) ∨ SqT K H a (x.map nV)) := by
    rcases hv with ⟨a, rfl, e⟩ | ⟨a, rfl, e⟩
    · exact ⟨a, rfl, .inr (SqT.of e)⟩
    · exact ⟨a, rfl, .inl (SqL.of e)⟩
  obtain ⟨a, rfl, hs⟩ := src
  refine ⟨_, rfl, _, rfl, rfl, a, _, rfl, hs, x.map fun n => tD (tabletOf n), by rw [List.length_map, List.length_map], srt_tab x, ?_, ?_⟩
  · intro i y d H' Q' hy hd kp q
    obtain ⟨n, hn, rfl⟩ := map_at hy
    rw [List.getElem?_map, hn] at hd
    cases hd
    exact ⟨rfl, n, rfl, fun v H2 k2 it => q v H2 k2 it.dp⟩
  · intro p H' hp kp hp'
    rw [sort_order (vals_nv x)]
    refine ⟨p, _, rfl, .inl ⟨SqL.of upd_same, fun q hq => ?_⟩⟩
    exact k _ _ ((kp.put hp).trans (Kp.new hq)) ⟨q, rfl, upd_same⟩
/-! ### sums_of -/
def kK (l : List Nat) : List (Key × V) := l.map fun (n : Nat) => (Sum.inl (n : Int), .bl true)
theorem kK_put (l : List Nat) (k : Nat) : putK (kK l) (Sum.inl (k : Int)) (.bl true) = kK (putN l k) := by
  have inj : ∀ a b : Nat, (Sum.inl (a : Int) : Key) = Sum.inl (b : Int) → a = b := fun a b h => by injection h with h; omega
  have e1 : ((kK l).any fun kv => decide (kv.1 = Sum.inl (k : Int))) = decide (k ∈ l) := by
    unfold kK
    rw [List.any_map]
    induction l with
    | nil => rfl
    | cons m l ih =>
      rw [List.any_cons, ih]
      show (decide ((Sum.inl (m : Int) : Key) = Sum.inl (k : Int)) || decide (k ∈ l)) = _
      by_cases h : k = m
      · subst h
        simp
      · have : ¬ (Sum.inl (m : Int) : Key) = Sum.inl (k : Int) := fun z => h (inj _ _ z).symm
        simp [this, h]
  unfold putK putN
  rw [e1]
  by_cases h : k ∈ l
  · rw [if_pos (decide_eq_true h), if_pos h]
    unfold kK
    rw [List.map_map]
    apply List.map_congr_left
    intro p _
    show (if (Sum.inl (p : Int) : Key) = Sum.inl (k : Int) then ((Sum.inl (p : Int) : Key), V.bl true) else ((Sum.inl (p : Int) : Key), V.bl true)) = _
    split <;> rfl
  · rw [if_neg (by simpa using h), if_neg h]
    unfold kK
    rw [List.map_append]
    rfl
theorem nodup_len {α : Type} [DecidableEq α] : ∀ (l m : List α), l.Nodup → (∀ x ∈ l, x ∈ m) → l.length ≤ m.length
  | [], m, _, _ => Nat.zero_le _
  | x :: l, m, h, s => by
    rw [List.nodup_cons] at h
    have h1 := nodup_len l (m.erase x) h.2 fun y hy => (List.mem_erase_of_ne fun (z : y = x) => h.1 (z ▸ hy)).mpr (s y (by simp [hy]))
    rw [List.length_erase_of_mem (s x (by simp))] at h1
    have h2 : 0 < m.length := List.length_pos_of_mem (s x (by simp))
    rw [List.length_cons]
    omega
theorem putN_nodup {α : Type} [DecidableEq α] {l : List α} {x : α} (h : l.Nodup) : (putN l x).Nodup := by
  unfold putN
  split
  · exact h
  · rename_i hx
    rw [List.nodup_append]
    exact ⟨h, by simp, fun a ha b hb => by
      rw [List.mem_singleton.mp hb]
      rintro rfl
      exact hx ha⟩
theorem putN_mem {α : Type} [DecidableEq α] {l : List α} {x y : α} : y ∈ putN l x ↔ y ∈ l ∨ y = x := by
  unfold putN
  split
  · rename_i hx
    constructor
    · exact fun h => .inl h
    · rintro (h | rfl)
      · exact h
      · exact hx
  · simp
theorem putNs_nodup {α : Type} [DecidableEq α] : ∀ (xs : List α) {l : List α}, l.Nodup → (xs.foldl putN l).Nodup
  | [], _, h => h
  | x :: xs, _, h => by rw [List.foldl_cons]; exact putNs_nodup xs (putN_nodup h)
theorem putNs_mem {α : Type} [DecidableEq α] {y : α} : ∀ (xs : List α) {l : List α}, y ∈ xs.foldl putN l ↔ y ∈ l ∨ y ∈ xs
  | [], l => by simp
  | x :: xs, l => by
    rw [List.foldl_cons, putNs_mem xs, putN_mem, List.mem_cons, or_assoc]
theorem total_lt {ms : List Nat} (h : ∀ m ∈ ms, m < 8) : totalOf ms < 8 := by
  have : ∀ (ms : List Nat) (a : Nat), a < 8 → (∀ m ∈ ms, m < 8) → ms.foldl (fun f m => f ^^^ m) a < 8 := by
    intro ms
    induction ms with
    | nil => intro a ha _; exact ha
    | cons m ms ih =>
      intro a ha hm
      exact ih _ (Nat.xor_lt_two_pow (n := 3) ha (hm m (by simp))) fun x hx => hm x (by simp [hx])
  exact this ms 0 (by decide) h
theorem getD_lt {ms : List Nat} (h : ∀ m ∈ ms, m < 8) (i : Nat) : ms.getD i 0 < 8 := by
  rw [List.getD_eq_getElem?_getD]
  cases e : ms[i]? with
  | none => decide
  | some m => exact h m (List.mem_of_getElem? e)
theorem sums_lt {ms : List Nat} (h : ∀ m ∈ ms, m < 8) (most : Nat) : ∀ x ∈ sumsOf ms most, x < 8 := by
  intro x hx
  unfold sumsOf at hx
  rw [putNs_mem] at hx
  rcases hx with hx | hx
  · cases hx
  · obtain ⟨r, _, rfl⟩ := List.mem_map.mp hx
    refine total_lt fun m hm => ?_
    obtain ⟨i, _, rfl⟩ := List.mem_map.mp hm
    exact getD_lt h i
theorem sums_nodup (ms : List Nat) (most : Nat) : (sumsOf ms most).Nodup := putNs_nodup _ List.nodup_nil
theorem sums_len {ms : List Nat} (h : ∀ m ∈ ms, m < 8) (most : Nat) : (sumsOf ms most).length ≤ 8 :=
  nodup_len _ (List.range 8) (sums_nodup ms most) fun x hx => List.mem_range.mpr (sums_lt h most x hx)
theorem rows_ix (most n : Nat) : ∀ (ns : List Nat) (f : List (List Nat)), (∀ k ∈ ns, k < n) → (∀ r ∈ f, ∀ k ∈ r, k < n) → ∀ r ∈ ns.foldl (rowStep most) f, ∀ k ∈ r, k < n
  | [], f, _, h => h
  | m :: ns, f, hn, h => by
    rw [List.foldl_cons]
    refine rows_ix most n ns _ (fun k hk => hn k (by simp [hk])) fun r hr k hk => ?_
    unfold rowStep at hr
    rcases List.mem_append.mp hr with h1 | h1
    · exact h r h1 k hk
    · obtain ⟨q, hq, rfl⟩ := List.mem_map.mp h1
      rcases List.mem_append.mp hk with h2 | h2
      · exact h q (List.mem_filter.mp hq).1 k h2
      · rw [List.mem_singleton.mp h2]
        exact hn m (by simp)
theorem rgV_nat (n : Nat) : rgV 0 (n : Int) = (List.range n).map nV := by
  unfold rgV
  rw [show ((n : Int) - 0).toNat = n by omega]
  apply List.map_congr_left
  intro i _
  rw [Int.zero_add]
abbrev st_sums_of : Stmt := topS 22
abbrev N_sums_of : List Str := ["masks", "most", "row", "one"]
theorem sc_sums_of : FnScope N_sums_of ["masks", "most"] (defScope st_sums_of) := ⟨rfl, rfl, rfl, by decide +kernel, rfl, by decide +kernel, by decide +kernel⟩
def dcIn (st : Stmt) : Scope := match defBody st with
  | [.Return (some (.DictComp _ _ _ sc _)) _] => sc
  | _ => default
/-- a promise that tells what is new -/
def spQ {α : Type} (n : Nat) (A : List V → Hp → α → Prop) (B : α → Hp → V → Hp → Prop) : Sp := fun vs H Q _ => vs.length = n ∧ ∃ x : α, A vs H x ∧ ∀ v H', Kp H H' → B x H v H' → Q v H'
theorem spQ_len {α : Type} {n : Nat} {A : List V → Hp → α → Prop} {B : α → Hp → V → Hp → Prop} : ∀ vs H Q E, spQ n A B vs H Q E → vs.length = n := fun _ _ _ _ h => h.1
theorem spQ_E {α : Type} {n : Nat} {A : List V → Hp → α → Prop} {B : α → Hp → V → Hp → Prop} : ∀ vs H Q E, spQ n A B vs H Q E → spQ n A B vs H Q E0 := fun _ _ _ _ h => h
def sp_sums_of : Sp := spQ 2 (fun vs H (x : List Nat × Nat) => ∃ v, vs = [v, nV x.2] ∧ IT H v x.1 ∧ x.1.length ≤ 9 ∧ ∀ m ∈ x.1, m < 8) fun x H0 v H => ∃ d, v = .ref d ∧ H0 d = none ∧ H d = some (.dK (kK (sumsOf x.1 x.2)))
theorem cal_sums_of (F : FunC K mg "sums_of" st_sums_of f fd c) (B : Bi mg) (C_total : Cal P w K mg base 1 "total" ["masks"] sp_total) (C_rows_of : Cal P w K mg base 1 "rows_of" ["numbers", "most"] sp_rows_of) : Cal P w K mg base 2 "sums_of" ["masks", "most"] sp_sums_of := by
  refine F.cal sc_sums_of spQ_len (fun _ _ _ _ _ _ us hl => match us, hl with | [_, _], _ => rfl) (fun A outer s H vs Q hr h => ?_) spQ_E
  refine ⟨_, (pss_one (ps_ret (pe_dc (own := [("row", 2)]) rfl sc_sums_of.nd (pi_listK K (hl := (pe_cal C_rows_of hr (by decide) (by rfl) (pa_cons (pe_listRg rfl (by rfl) B.list (prg_1 (by rfl) B.range (pe_callB (call_len_seqK K) (by rfl) B.len PySem.boot_len (pa_cons (pv 0) pa_nil)))) (pa_cons (pv 1) pa_nil))))) (blkOk_by (own := [("row", 2)]) (N := N_sums_of) (sc := defScope st_sums_of) (by decide +kernel)) (fun _ _ _ _ _ => (pg_name (i := 2) sc_sums_of.nd rfl (by first | exact Or.inl rfl | exact Or.inr rfl))) (fun _ _ _ _ _ => pts_nil) (fun _ _ _ _ _ => (pe_cal C_total hr (by decide) (by rfl) (pa_cons (pe_lc (own := [("one", 3)]) rfl sc_sums_of.nd (pi_tupK K (hl := (pv 2))) (blkOk_by (own := [("one", 3)]) (N := N_sums_of) (sc := relS (dcIn st_sums_of) (defScope st_sums_of)) (by decide +kernel)) (fun _ _ _ _ _ => (pg_name (i := 3) sc_sums_of.nd rfl (by first | exact Or.inl rfl | exact Or.inr rfl))) (fun _ _ _ _ _ => pts_nil) (fun _ _ _ _ _ => (pe_ix (ix_tupK K) (pv 0) (pv 3) (fun _ _ => rfl)))) pa_nil))) (fun _ _ _ _ _ => pe_bl)))), ?_⟩
  obtain ⟨_, ⟨x, most⟩, ⟨_, rfl, ⟨a, rfl, e⟩, sz, lt⟩, k⟩ := h
  have sz : x.length ≤ 9 := sz
  have e : H a = some (.tup (x.map nV)) := e
  refine ⟨_, rfl, a, _, rfl, .inr (SqT.of e), _, rfl, RgOk.of_le (by omega) (by rw [List.length_map]; omega) (by omega) (by omega), fun q hq => ?_⟩
  refine ⟨_, rfl, rfl, (List.range x.length, most), ⟨.ref q, rfl, ⟨q, rfl, ?_⟩, by rw [List.length_range]; exact sz⟩, ?_⟩
  · rw [List.length_map, rgV_nat]
    exact upd_same
  rintro v H1 k1 ⟨r, vs, rfl, er, its⟩
  have e1 := ((Kp.new (o := .lst (rgV 0 ((x.map nV).length : Int))) hq).trans k1).tup e
  have kp1 := (Kp.new (o := .lst (rgV 0 ((x.map nV).length : Int))) hq).trans k1
  refine ⟨r, rfl, ⟨_, SqL.of er⟩, fun D hD => ?_⟩
  have bound := sums_len lt most
  refine turns_list (xs := vs) (fun i H' => Kp H1 H' ∧ H' D = some (.dK (kK (((rowsOf (List.range x.length) most).take i).map (fun r => totalOf (r.map fun i => x.getD i 0)) |>.foldl putN [])))) ⟨Kp.new hD, upd_same⟩ (fun i H' I => SqL.of (I.1.lst er)) ?_ ?_
  · rintro i y H' hy ⟨kp, hd⟩
    obtain ⟨row, hrow, it⟩ := Paired.at' its hy
    have it := it.kp kp
    obtain ⟨b, rfl, eb⟩ := it
    have rm : row ∈ rowsF (List.range x.length) most := by
      have := List.mem_of_getElem? hrow
      unfold rowsOf sortL at this
      exact List.mem_mergeSort.mp this
    have rix := rows_ix most x.length (List.range x.length) [[]] (fun k hk => List.mem_range.mp hk) (by simp) row rm
    have rlen := rows_small most (List.range x.length) [[]] 0 (by simp) row rm
    rw [List.length_range] at rlen
    refine ⟨rfl, yes2 ⟨_, rfl, b, rfl, ⟨_, SqT.of eb⟩, fun D2 hD2 => ?_⟩⟩
    refine turns_tup (xs := row.map nV) (fun j H2 => AccI H' D2 (fun _ v (n : Nat) => v = nV n) ((row.take j).map fun i => x.getD i 0) H2) (AccI.zero hD2) (fun j H2 I => SqT.of (I.1.tup eb)) ?_ ?_
    · intro j y H2 hy I
      obtain ⟨n, hn, rfl⟩ := map_at hy
      have nlt := rix n (List.mem_of_getElem? hn)
      have gx : x[n]? = some (x.getD n 0) := by rw [List.getD_eq_getElem?_getD, List.getElem?_eq_getElem nlt]; rfl
      refine ⟨rfl, yes2 ⟨_, rfl, _, rfl, a, _, _, _, rfl, rfl, SqT.of (I.1.tup (kp.tup e1)), atI_nat (j := n) (by rw [List.getElem?_map, gx]; rfl), ?_⟩⟩
      exact I.push stab_nv hD2 (Kp.refl _) rfl (sl (by rw [List.length_map, List.length_take]; omega)) (by rw [take_more hn, List.map_append]; rfl)
    · rintro H2 ⟨k2, acc, hacc, p⟩
      rw [List.length_map, List.take_length] at p
      obtain rfl := nv_vals p
      refine ⟨rfl, row.map fun i => x.getD i 0, ⟨_, rfl, D2, rfl, hacc⟩, ?_⟩
      rintro v H3 k3 rfl
      refine ⟨_, Sum.inl ((totalOf (row.map fun i => x.getD i 0) : Nat) : Int), rfl, k3.dK (k2.dK hd), ?_, ((kp.trans k2).trans k3).put hD, ?_⟩
      · unfold kK
        rw [List.length_map]
        refine sl (Nat.le_trans (putNs_len _ _) ?_)
        rw [List.length_map, List.length_take]
        have := rows_le (ns := List.range x.length) (by rw [List.length_range]; exact sz) most x.length
        rw [List.take_of_length_le (by rw [List.length_range]; exact Nat.le_refl _)] at this
        have e2 : (rowsOf (List.range x.length) most).length = (rowsF (List.range x.length) most).length := by unfold rowsOf sortL; rw [List.length_mergeSort]
        rw [e2]
        simp only [List.length_nil]
        omega
      · rw [kK_put, take_more hrow, List.map_append, List.foldl_append]
        exact upd_same
  · rintro H' ⟨kp, hd⟩
    rw [its.length, List.take_length] at hd
    exact k _ _ (kp1.trans kp) ⟨D, rfl, kp1.free hD, hd⟩
end
end MX
end

section
set_option Elab.async false
set_option linter.all false
set_option maxRecDepth 100000
set_option maxHeartbeats 4000000
namespace MX
open PySem PySem.Spec PyProof.Rows L2
/-! ### slices and sums of tuples of numbers -/
section
variable {K : PySem.W.Frag} {H : Hp} {v u : V} {ms ns : List Nat} {Q : VK}
theorem sl_head {n : Nat} (h : IT H v ms) (k : ∀ u H2, Kp H H2 → IT H2 u (ms.take n) → Q u H2) : rSlA K v none (some (n : Int)) H Q := by
  obtain ⟨a, rfl, e⟩ := h
  refine ⟨a, _, rfl, SqT.of e, fun hw => ?_, fun _ p hp => ?_⟩
  · have h2 := hw.2
    rw [HT.sIx_nat, List.length_map] at h2
    exact k _ _ (Kp.refl _) ⟨a, rfl, by rw [List.take_of_length_le (by omega)]; exact e⟩
  · refine k _ _ (Kp.new hp) ⟨p, rfl, ?_⟩
    rw [upd_same]
    unfold cutV
    rw [HT.sIx_none, HT.sIx_nat, List.drop_zero, Nat.sub_zero, List.map_take, List.length_map]
    congr 2
    by_cases z : n ≤ ms.length
    · rw [Nat.min_eq_left z]
    · rw [Nat.min_eq_right (by omega), List.take_of_length_le (by rw [List.length_map]; exact Nat.le_refl _), List.take_of_length_le (by rw [List.length_map]; omega)]
theorem sl_tail {n : Nat} (h : IT H v ms) (k : ∀ u H2, Kp H H2 → IT H2 u (ms.drop n) → Q u H2) : rSlA K v (some (n : Int)) none H Q := by
  obtain ⟨a, rfl, e⟩ := h
  refine ⟨a, _, rfl, SqT.of e, fun hw => ?_, fun _ p hp => ?_⟩
  · have h2 := hw.1
    rw [HT.sIx_nat, List.length_map] at h2
    refine k _ _ (Kp.refl _) ⟨a, rfl, ?_⟩
    by_cases z : n = 0
    · subst z
      exact e
    · have : ms = [] := List.eq_nil_of_length_eq_zero (by omega)
      subst this
      rw [List.drop_nil]
      exact e
  · refine k _ _ (Kp.new hp) ⟨p, rfl, ?_⟩
    rw [upd_same]
    unfold cutV
    rw [HT.sIx_none, HT.sIx_nat, List.map_drop, List.length_map]
    congr 2
    by_cases z : n ≤ ms.length
    · rw [Nat.min_eq_left z, List.take_of_length_le (by rw [List.length_drop, List.length_map]; exact Nat.le_refl _)]
    · rw [Nat.min_eq_right (by omega), Nat.sub_self, List.take_zero, List.drop_eq_nil_of_le (by rw [List.length_map]; omega)]
theorem cat_two (h : IT H v ms) (h2 : IT H u ns) (hz : ms.length + ns.length ≤ 1000) (k : ∀ u H2, Kp H H2 → IT H2 u (ms ++ ns) → Q u H2) : rCatA K v u H Q := by
  obtain ⟨a, rfl, e⟩ := h
  obtain ⟨b, rfl, e2⟩ := h2
  refine ⟨a, b, _, _, rfl, rfl, SqT.of e, SqT.of e2, by rw [List.length_map, List.length_map, sizeLine_eq]; omega, fun z => ?_, fun _ z => ?_, fun _ _ p hp => ?_⟩
  · have z : ms = [] := List.map_eq_nil_iff.mp z
    exact k _ _ (Kp.refl _) ⟨b, rfl, by rw [z]; exact e2⟩
  · have z : ns = [] := List.map_eq_nil_iff.mp z
    exact k _ _ (Kp.refl _) ⟨a, rfl, by rw [z, List.append_nil]; exact e⟩
  · exact k _ _ (Kp.new hp) ⟨p, rfl, by rw [List.map_append]; exact upd_same⟩
end
/-- t[n:], t a name -/
theorem tsl_from {K : PySem.W.Frag} {σ : L2.St} {H : Hp} {Q : VK} {i : Nat} {v : V} {ms : List Nat} {n : Nat} {c : Int} (hc : c = (n : Int)) (h : σ[i]? = some (some v)) (it : IT H v ms) (k : ∀ u H2, Kp H H2 → IT H2 u (ms.drop n) → Q u H2) : tSl (rSlA K) (tVar i) (tPart (tC (.int c))) tNoPart σ H Q :=
  ⟨v, h, c, rfl, (show rSlA K v (some c) none H Q by rw [hc]; exact sl_tail it k)⟩
/-- left[:number] + left[number + 1:] -/
theorem cut_key {K : PySem.W.Frag} {σ : L2.St} {H : Hp} {Q : VK} {i j : Nat} {v : V} {left : List Nat} {m : Nat} (h5 : σ[i]? = some (some v)) (h6 : σ[j]? = some (some (nV m))) (it : IT H v left) (hz : left.length ≤ 500) (k : ∀ u H2, Kp H H2 → IT H2 u (left.take m ++ left.drop (m + 1)) → Q u H2) :
    tOp (rCatA K) (tSl (rSlA K) (tVar i) tNoPart (tPart (tVar j))) (tSl (rSlA K) (tVar i) (tPart (tOp (rI0 fun i j => .int (i + j)) (tVar j) (tC (.int 1)))) tNoPart) σ H Q := by
  refine ⟨_, h5, _, h6, _, rfl, ?_⟩
  refine sl_head it fun u1 H4 k4 iu1 => ?_
  refine ⟨_, h5, _, h6, _, _, rfl, rfl, ((m + 1 : Nat) : Int), rfl, ?_⟩
  change rSlA K v (some ((m + 1 : Nat) : Int)) none H4 fun y H2 => rCatA K u1 y H2 Q
  refine sl_tail (n := m + 1) (it.kp k4) fun u2 H5 k5 iu2 => ?_
  exact cat_two (iu1.kp k5) iu2 (by rw [List.length_take, List.length_drop]; omega) fun u3 H6 k6 iu3 => k u3 H6 ((k4.trans k5).trans k6) iu3
/-! ### how large the mirror's lists grow -/
theorem cuts_len (l : List Nat) : (cuts l).length = l.length := by unfold cuts; rw [List.length_map, List.length_range]
theorem cuts_mem {l x : List Nat} (h : x ∈ cuts l) : x.length + 1 = l.length ∧ ∀ m ∈ x, m ∈ l := by
  unfold cuts at h
  obtain ⟨k, hk, rfl⟩ := List.mem_map.mp h
  have hk := List.mem_range.mp hk
  refine ⟨by rw [List.length_append, List.length_take, List.length_drop]; omega, fun m hm => ?_⟩
  rcases List.mem_append.mp hm with h | h
  · exact List.mem_of_mem_take h
  · exact List.mem_of_mem_drop h
theorem fold_len {α β : Type} [DecidableEq β] (g : α → List β) (c : Nat) : ∀ (xs : List α) (l : List β), (∀ x ∈ xs, (g x).length ≤ c) → (xs.foldl (fun l x => (g x).foldl putN l) l).length ≤ l.length + xs.length * c
  | [], l, _ => by simp
  | x :: xs, l, h => by
    rw [List.foldl_cons]
    refine Nat.le_trans (fold_len g c xs _ fun y hy => h y (by simp [hy])) ?_
    have h1 := putNs_len (g x) l
    have h2 := h x (by simp)
    rw [List.length_cons, Nat.succ_mul]
    omega
theorem fold_mem {α β : Type} [DecidableEq β] (g : α → List β) {y : β} : ∀ (xs : List α) (l : List β), y ∈ xs.foldl (fun l x => (g x).foldl putN l) l ↔ y ∈ l ∨ ∃ x ∈ xs, y ∈ g x
  | [], l => by simp
  | x :: xs, l => by
    rw [List.foldl_cons, fold_mem g xs, putNs_mem]
    simp [or_assoc]
theorem fold_nodup {α β : Type} [DecidableEq β] (g : α → List β) : ∀ (xs : List α) {l : List β}, l.Nodup → (xs.foldl (fun l x => (g x).foldl putN l) l).Nodup
  | [], _, h => h
  | x :: xs, _, h => by rw [List.foldl_cons]; exact fold_nodup g xs (putNs_nodup _ h)
theorem chosen_mem {n : Nat} : ∀ (i : Nat) {f : List (List Nat)}, (∀ x ∈ f, x.length ≤ n) → ∀ x ∈ iter chosenStep i f, x.length ≤ n
  | 0, f, h => h
  | i + 1, f, h => by
    intro x hx
    have ih := chosen_mem i h
    unfold iter chosenStep at hx
    rw [fold_mem] at hx
    rcases hx with hx | ⟨y, hy, hx⟩
    · cases hx
    · have := cuts_mem hx
      have := ih y hy
      omega
theorem chosen_len {n : Nat} {f : List (List Nat)} (h : ∀ x ∈ f, x.length ≤ n) : ∀ i, (iter chosenStep i f).length ≤ f.length * n ^ i
  | 0 => by simp [iter]
  | i + 1 => by
    have ih := chosen_len h i
    unfold iter chosenStep
    refine Nat.le_trans (fold_len cuts n _ _ fun x hx => by rw [cuts_len]; exact chosen_mem i h x hx) ?_
    rw [List.length_nil, Nat.zero_add, Nat.pow_succ, ← Nat.mul_assoc]
    exact Nat.mul_le_mul_right _ ih
section
variable {P : Program} {w : World} {K : PySem.W.Frag} {mg : Str → Option Value} {base : Heap} {f c : Addr} {fd : FuncData}
abbrev st_chosen : Stmt := topS 30
abbrev N_chosen : List Str := ["masks", "many", "found", "turn", "later", "left", "number"]
theorem sc_chosen : FnScope N_chosen ["masks", "many"] (defScope st_chosen) := ⟨rfl, rfl, rfl, by decide +kernel, rfl, by decide +kernel, by decide +kernel⟩
def sp_chosen : Sp := spQ 2 (fun vs H (x : List Nat × Nat) => ∃ v, vs = [v, nV x.2] ∧ IT H v x.1 ∧ x.1.length ≤ 6 ∧ x.2 ≤ 3) fun x H0 v H => ∃ a vs, v = .ref a ∧ H0 a = none ∧ H a = some (.lst vs) ∧ ITs H vs (chosen x.1 x.2)
theorem cal_chosen (F : FunC K mg "chosen" st_chosen f fd c) (B : Bi mg) : Cal P w K mg base 1 "chosen" ["masks", "many"] sp_chosen := by
  refine F.cal sc_chosen spQ_len (fun _ _ _ _ _ _ us hl => match us, hl with | [_, _], _ => rfl) (fun A outer s H vs Q hr h => ?_) spQ_E
  refine ⟨_, (pss_cons (ps_set (i := 2) sc_chosen.nd rfl (Or.inl rfl) (pe_disp1T hr.units0 (pv 0) pe_bl))
  (pss_cons (ps_for PassesOwn.never rfl (pi_range1 (by rfl) B.range (pa_cons (pv 1) pa_nil)) (pg_name (i := 3) sc_chosen.nd rfl (by first | exact Or.inl rfl | exact Or.inr rfl)) (pss_cons (ps_set (i := 4) sc_chosen.nd rfl (Or.inl rfl) pe_dnewT)
  (pss_cons (ps_lock (ps_for PassesOwn.never rfl (pi_keys (pv 2)) (pg_name (i := 5) sc_chosen.nd rfl (by first | exact Or.inl rfl | exact Or.inr rfl)) (pss_one (ps_for PassesOwn.never rfl (pi_range1 (by rfl) B.range (pa_cons (pe_callB (call_len_seqK K) (by rfl) B.len PySem.boot_len (pa_cons (pv 5) pa_nil)) pa_nil)) (pg_name (i := 6) sc_chosen.nd rfl (by first | exact Or.inl rfl | exact Or.inr rfl)) (pss_one (ps_dput (hu_of hr) (pv 4) (pe_op (op_catAK K) (pe_slice (sl_tupAK K) (pv 5) po_none (po_some (pv 6))) (pe_slice (sl_tupAK K) (pv 5) (po_some (pe_op op_add (pv 6) pe_int)) po_none)) pe_bl (by rfl)))))))
  (pss_one (ps_set (i := 2) sc_chosen.nd rfl (Or.inl rfl) (pv 4))))))
  (pss_one (ps_ret (pe_callB (cr_sortCK K (hc := (cl_keys rfl)) (hu := un_of hr (by decide))) (by rfl) B.sorted boot_sorted (pa_cons (pe_bm0 PySem.F.plainAttrs_dict PySem.F.slot_dict_keys PySem.F.type_dict_keys mt_keysT (pv 2)) pa_nil)))))), ?_⟩
  obtain ⟨_, ⟨x, many⟩, ⟨_, rfl, ⟨a, rfl, e⟩, sz, mz⟩, k⟩ := h
  have sz : x.length ≤ 6 := sz
  have mz : many ≤ 3 := mz
  have e : H a = some (.tup (x.map nV)) := e
  intro d hd
  have key : ∀ {H2 : Hp} {b : Addr} {l : List Nat}, H2 b = some (.tup (l.map nV)) → H2 b = some (.tup ((kM l).map kV)) := fun h => by rw [kM_kV]; exact h
  refine ⟨_, rfl, upd_same, kM x, a, rfl, key ((Kp.new hd).tup e), ?_⟩
  have bd : ∀ i, i ≤ 3 → (iter chosenStep i [x]).length ≤ 216 := fun i hi => by
    refine Nat.le_trans (chosen_len (n := 6) (by simpa using sz) i) ?_
    rw [List.length_cons, List.length_nil, Nat.zero_add, Nat.one_mul]
    exact Nat.le_trans (Nat.pow_le_pow_right (by decide) hi) (by decide)
  refine ⟨_, rfl, (many : Int), rfl, by omega, by omega, ?_⟩
  rw [Int.toNat_natCast]
  refine for_range (lo := 0) (n := many) (fun i σ H' => Kp H H' ∧ ∃ d o3 o4 o5 o6, σ = [some (.ref a), some (nV many), some (.ref d), o3, o4, o5, o6] ∧ H d = none ∧ H' d = some (.dT (kS (iter chosenStep i [x])))) ?_ ?_ ?_
  · refine ⟨(Kp.new hd).put hd, d, _, _, _, _, rfl, hd, ?_⟩
    rw [upd_same]
    rfl
  · rintro i σ H' hi ⟨kp, d, o3, o4, o5, o6, rfl, hd0, hd⟩
    intro l hl
    have hl0 : H l = none := kp.free hl
    have ndl : d ≠ l := ne_of_none hd hl
    have hd1 : upd H' l (.dT []) d = some (.dT (kS (iter chosenStep i [x]))) := by rw [upd_ne ndl]; exact hd
    refine ⟨d, _, hd1, True.intro, fun od => ⟨_, rfl, d, od, rfl, .inr ⟨_, upd_same, ?_⟩⟩⟩
    have small := chosen_mem (n := 6) (f := [x]) i (by simpa using sz)
    have Lb := bd i (by omega)
    generalize hL : iter chosenStep i [x] = L at *
    refine loop_keys (fun j σ H2 => Kp H H2 ∧ ∃ o5 o6, σ = [some (.ref a), some (nV many), some (.ref d), some (.int (0 + (i : Int))), some (.ref l), o5, o6] ∧ H2 d = some (.frz od (.dT (kS L))) ∧ H2 l = some (.dT (kS ((L.take j).foldl (fun l left => (cuts left).foldl putN l) [])))) ?_ (fun _ _ _ I => by obtain ⟨_, _, _, _, h, _⟩ := I; exact h) ?_ ?_
    · refine ⟨(kp.put hl0).put hd0, _, _, rfl, upd_same, ?_⟩
      rw [upd_ne (Ne.symm ndl), upd_same]
      rfl
    · rintro j kk v q σ H2 hkv hq ⟨kp2, o5, o6, rfl, hdf, hl2⟩
      obtain ⟨left, hleft, ekv⟩ := map_at hkv
      cases ekv
      have it : IT H2 (.ref q) left := IT.of_key hq
      obtain ⟨_, eq, hq2⟩ := id it
      cases eq
      have ll := small left (List.mem_of_getElem? hleft)
      have Lj : ((L.take j).foldl (fun l left => (cuts left).foldl putN l) []).length ≤ 216 * 6 := by
        refine Nat.le_trans (fold_len cuts 6 _ _ fun y hy => by rw [cuts_len]; exact small y (List.mem_of_mem_take hy)) ?_
        rw [List.length_nil, Nat.zero_add, List.length_take]
        exact Nat.mul_le_mul_right _ (by omega)
      refine ⟨_, rfl, q, _, rfl, .inr (SqT.of hq2), _, rfl, by rw [List.length_map]; omega, by rw [List.length_map]; omega, ?_⟩
      rw [Int.toNat_natCast, List.length_map]
      refine for_range (lo := 0) (n := left.length) (fun m σ H3 => Kp H H3 ∧ ∃ o6, σ = [some (.ref a), some (nV many), some (.ref d), some (.int (0 + (i : Int))), some (.ref l), some (.ref q), o6] ∧ H3 d = some (.frz od (.dT (kS L))) ∧ H3 l = some (.dT (kS (((cuts left).take m).foldl putN ((L.take j).foldl (fun l left => (cuts left).foldl putN l) [])))) ∧ IT H3 (.ref q) left) ⟨kp2, _, rfl, hdf, hl2, it⟩ ?_ ?_
      · rintro m σ H3 hm ⟨kp3, o6, rfl, hdf3, hl3, it3⟩
        refine ⟨_, rfl, cut_key (m := m) (left := left) rfl (by show some (some (V.int (0 + (m : Int)))) = _; rw [Int.zero_add]) it3 (by omega) fun u3 H6 k36 iu3 => ?_⟩
        obtain ⟨b, rfl, hb⟩ := iu3.key
        have hl6 := k36.dT hl3
        refine ⟨l, _, rfl, DPut.t hl6 hb ?_, ?_⟩
        · rw [kS_len]
          refine sl (Nat.le_trans (putNs_len _ _) ?_)
          rw [List.length_take, cuts_len]
          omega
        · rw [kS_put]
          refine ⟨(kp3.trans k36).put hl0, _, rfl, ?_, ?_, ?_⟩
          · rw [upd_ne ndl]
            exact k36.frz hdf3
          · have gm : (cuts left)[m]? = some (left.take m ++ left.drop (m + 1)) := by
              unfold cuts
              rw [List.getElem?_map, List.getElem?_range hm]
              rfl
            rw [take_more gm, List.foldl_append]
            exact upd_same
          · exact (it3.kp k36).tk (Tk.dT hl6)
      · rintro σ H3 ⟨kp3, o6, rfl, hdf3, hl3, it3⟩
        rw [List.take_of_length_le (l := cuts left) (by rw [cuts_len]; exact Nat.le_refl _)] at hl3
        refine ⟨kp3, _, _, rfl, hdf3, ?_⟩
        rw [take_more hleft, List.foldl_append]
        exact hl3
    · rintro σ H2 ⟨kp2, o5, o6, rfl, hdf, hl2⟩
      rw [kS_len, List.take_length] at hl2
      refine ⟨hdf, _, rfl, kp2.put hd0, l, _, _, _, _, rfl, hl0, ?_⟩
      rw [upd_ne (Ne.symm ndl), hl2]
      show _ = some (HO.dT (kS (chosenStep (iter chosenStep i [x]))))
      rw [hL]
      rfl
  · rintro σ H' ⟨kp, d, o3, o4, o5, o6, rfl, hd0, hd⟩
    refine ⟨_, rfl, .inr (.inr (.inl ⟨rfl, .inr ⟨_, hd⟩⟩)), d, _, rfl, rfl, .inl hd, fun p hp => ?_⟩
    refine ⟨_, rfl, p, d, _, rfl, upd_same, .inl ((Kp.new hp).dT hd), fun bs hbs => ?_⟩
    have its := keys_its hbs
    refine ⟨_, its.dp, srt_t _, fun q hq => ?_⟩
    exact k _ _ ((kp.trans (Kp.new hp)).trans (Kp.new hq)) ⟨q, _, rfl, (kp.trans (Kp.new hp)).free hq, upd_same, (sortV_it its).tk (Tk.new hq)⟩
end
end MX
end

section
set_option Elab.async false
set_option linter.all false
set_option maxRecDepth 100000
set_option maxHeartbeats 4000000
namespace MX
open PySem PySem.Spec PyProof.Rows L2
theorem inOrder_perm (l : List Nat) : (inOrder l).Perm l := by unfold inOrder; exact List.mergeSort_perm _ _
theorem grown_len {ms : List Nat} (h : ∀ m ∈ ms, m < 8) (most : Nat) : (grown most ms).length ≤ 8 := by unfold grown; rw [List.length_map]; exact sums_len h most
theorem grown_mem {ms x : List Nat} {most : Nat} (h : ∀ m ∈ ms, m < 8) (hx : x ∈ grown most ms) : x.length = ms.length + 1 ∧ ∀ m ∈ x, m < 8 := by
  unfold grown at hx
  obtain ⟨m, hm, rfl⟩ := List.mem_map.mp hx
  refine ⟨by rw [(inOrder_perm _).length_eq, List.length_append]; rfl, fun y hy => ?_⟩
  rcases List.mem_append.mp ((inOrder_perm _).mem_iff.mp hy) with h1 | h1
  · exact h y h1
  · rw [List.mem_singleton.mp h1]
    exact sums_lt h most m hm
theorem filled_mem {most n : Nat} : ∀ (i : Nat) {f : List (List Nat)}, (∀ x ∈ f, x.length = n ∧ ∀ m ∈ x, m < 8) → ∀ x ∈ iter (filledStep most) i f, x.length = n + i ∧ ∀ m ∈ x, m < 8
  | 0, f, h => h
  | i + 1, f, h => by
    intro x hx
    have ih := filled_mem (most := most) i h
    unfold iter filledStep at hx
    rw [fold_mem] at hx
    rcases hx with hx | ⟨y, hy, hx⟩
    · cases hx
    · have h1 := ih y hy
      have h2 := grown_mem h1.2 hx
      exact ⟨by omega, h2.2⟩
theorem filled_len {most n : Nat} {f : List (List Nat)} (h : ∀ x ∈ f, x.length = n ∧ ∀ m ∈ x, m < 8) : ∀ i, (iter (filledStep most) i f).length ≤ f.length * 8 ^ i
  | 0 => by simp [iter]
  | i + 1 => by
    have ih := filled_len (most := most) h i
    unfold iter filledStep
    refine Nat.le_trans (fold_len (grown most) 8 _ _ fun x hx => grown_len (filled_mem i h x hx).2 most) ?_
    rw [List.length_nil, Nat.zero_add, Nat.pow_succ, ← Nat.mul_assoc]
    exact Nat.mul_le_mul_right _ ih
section
variable {P : Program} {w : World} {K : PySem.W.Frag} {mg : Str → Option Value} {base : Heap} {f c : Addr} {fd : FuncData}
abbrev st_filled : Stmt := topS 31
abbrev N_filled : List Str := ["left", "many", "most", "found", "turn", "later", "masks", "mask"]
theorem sc_filled : FnScope N_filled ["left", "many", "most"] (defScope st_filled) := ⟨rfl, rfl, rfl, by decide +kernel, rfl, by decide +kernel, by decide +kernel⟩
def sp_filled : Sp := spQ 3 (fun vs H (x : List Nat × Nat × Nat) => ∃ v, vs = [v, nV x.2.1, nV x.2.2] ∧ IT H v x.1 ∧ x.1.length ≤ 6 ∧ x.2.1 ≤ 3 ∧ ∀ m ∈ x.1, m < 8) fun x H0 v H => ∃ a vs, v = .ref a ∧ H0 a = none ∧ H a = some (.lst vs) ∧ ITs H vs (filled x.1 x.2.1 x.2.2)
theorem cal_filled (F : FunC K mg "filled" st_filled f fd c) (B : Bi mg) (C_sums_of : Cal P w K mg base 2 "sums_of" ["masks", "most"] sp_sums_of) (C_in_order : Cal P w K mg base 4 "in_order" ["masks"] sp_in_order) : Cal P w K mg base 5 "filled" ["left", "many", "most"] sp_filled := by
  refine F.cal sc_filled spQ_len (fun _ _ _ _ _ _ us hl => match us, hl with | [_, _, _], _ => rfl) (fun A outer s H vs Q hr h => ?_) spQ_E
  refine ⟨_, (pss_cons (ps_set (i := 3) sc_filled.nd rfl (Or.inl rfl) (pe_disp1T hr.units0 (pv 0) pe_bl))
  (pss_cons (ps_for PassesOwn.never rfl (pi_range1 (by rfl) B.range (pa_cons (pv 1) pa_nil)) (pg_name (i := 4) sc_filled.nd rfl (by first | exact Or.inl rfl | exact Or.inr rfl)) (pss_cons (ps_set (i := 5) sc_filled.nd rfl (Or.inl rfl) pe_dnewT)
  (pss_cons (ps_lock (ps_for PassesOwn.never rfl (pi_keys (pv 3)) (pg_name (i := 6) sc_filled.nd rfl (by first | exact Or.inl rfl | exact Or.inr rfl)) (pss_one (ps_for PassesOwn.never rfl (pi_keysF (pe_cal C_sums_of hr (by decide) (by rfl) (pa_cons (pv 6) (pa_cons (pv 2) pa_nil)))) (pg_name (i := 7) sc_filled.nd rfl (by first | exact Or.inl rfl | exact Or.inr rfl)) (pss_one (ps_dput (hu_of hr) (pv 5) (pe_cal C_in_order hr (by decide) (by rfl) (pa_cons (pe_op (op_catAK K) (pv 6) (pe_tup (pa_cons (pv 7) pa_nil))) pa_nil)) pe_bl (by rfl)))))))
  (pss_one (ps_set (i := 3) sc_filled.nd rfl (Or.inl rfl) (pv 5))))))
  (pss_one (ps_ret (pe_callB (cr_sortCK K (hc := (cl_keys rfl)) (hu := un_of hr (by decide))) (by rfl) B.sorted boot_sorted (pa_cons (pe_bm0 PySem.F.plainAttrs_dict PySem.F.slot_dict_keys PySem.F.type_dict_keys mt_keysT (pv 3)) pa_nil)))))), ?_⟩
  obtain ⟨_, ⟨x, many, most⟩, ⟨_, rfl, ⟨a, rfl, e⟩, sz, mz, lt⟩, k⟩ := h
  have sz : x.length ≤ 6 := sz
  have mz : many ≤ 3 := mz
  have lt : ∀ m ∈ x, m < 8 := lt
  have e : H a = some (.tup (x.map nV)) := e
  intro d hd
  have key : ∀ {H2 : Hp} {b : Addr} {l : List Nat}, H2 b = some (.tup (l.map nV)) → H2 b = some (.tup ((kM l).map kV)) := fun h => by rw [kM_kV]; exact h
  refine ⟨_, rfl, upd_same, kM x, a, rfl, key ((Kp.new hd).tup e), ?_⟩
  have st0 : ∀ y ∈ [x], y.length = x.length ∧ ∀ m ∈ y, m < 8 := fun y hy => by rw [List.mem_singleton.mp hy]; exact ⟨rfl, lt⟩
  have bd : ∀ i, i ≤ 3 → (iter (filledStep most) i [x]).length ≤ 512 := fun i hi => by
    refine Nat.le_trans (filled_len st0 i) ?_
    rw [List.length_cons, List.length_nil, Nat.zero_add, Nat.one_mul]
    exact Nat.le_trans (Nat.pow_le_pow_right (by decide) hi) (by decide)
  refine ⟨_, rfl, (many : Int), rfl, by omega, by omega, ?_⟩
  rw [Int.toNat_natCast]
  refine for_range (lo := 0) (n := many) (fun i σ H' => Kp H H' ∧ ∃ d o4 o5 o6 o7, σ = [some (.ref a), some (nV many), some (nV most), some (.ref d), o4, o5, o6, o7] ∧ H d = none ∧ H' d = some (.dT (kS (iter (filledStep most) i [x])))) ?_ ?_ ?_
  · refine ⟨(Kp.new hd).put hd, d, _, _, _, _, rfl, hd, ?_⟩
    rw [upd_same]
    rfl
  · rintro i σ H' hi ⟨kp, d, o4, o5, o6, o7, rfl, hd0, hd⟩
    intro l hl
    have hl0 : H l = none := kp.free hl
    have ndl : d ≠ l := ne_of_none hd hl
    have hd1 : upd H' l (.dT []) d = some (.dT (kS (iter (filledStep most) i [x]))) := by rw [upd_ne ndl]; exact hd
    refine ⟨d, _, hd1, True.intro, fun od => ⟨_, rfl, d, od, rfl, .inr ⟨_, upd_same, ?_⟩⟩⟩
    have small := filled_mem (most := most) (f := [x]) i st0
    have Lb := bd i (by omega)
    generalize hL : iter (filledStep most) i [x] = L at *
    refine loop_keys (fun j σ H2 => Kp H H2 ∧ ∃ o6 o7, σ = [some (.ref a), some (nV many), some (nV most), some (.ref d), some (.int (0 + (i : Int))), some (.ref l), o6, o7] ∧ H2 d = some (.frz od (.dT (kS L))) ∧ H2 l = some (.dT (kS ((L.take j).foldl (fun l ms => (grown most ms).foldl putN l) [])))) ?_ (fun _ _ _ I => by obtain ⟨_, _, _, _, h, _⟩ := I; exact h) ?_ ?_
    · refine ⟨(kp.put hl0).put hd0, _, _, rfl, upd_same, ?_⟩
      rw [upd_ne (Ne.symm ndl), upd_same]
      rfl
    · rintro j kk v q σ H2 hkv hq ⟨kp2, o6, o7, rfl, hdf, hl2⟩
      obtain ⟨ms, hms, ekv⟩ := map_at hkv
      cases ekv
      have it : IT H2 (.ref q) ms := IT.of_key hq
      obtain ⟨ll, l8⟩ := small ms (List.mem_of_getElem? hms)
      have Lj : ((L.take j).foldl (fun l ms => (grown most ms).foldl putN l) []).length ≤ 512 * 8 := by
        refine Nat.le_trans (fold_len (grown most) 8 _ _ fun y hy => grown_len (small y (List.mem_of_mem_take hy)).2 most) ?_
        rw [List.length_nil, Nat.zero_add, List.length_take]
        exact Nat.mul_le_mul_right _ (by omega)
      refine ⟨_, rfl, _, rfl, rfl, (ms, most), ⟨_, rfl, it, (show ms.length ≤ 9 by omega), l8⟩, ?_⟩
      rintro v H3 k3 ⟨d2, rfl, hd20, hd2⟩
      refine ⟨d2, _, rfl, hd2, fun o2 => ?_⟩
      have ne1 : d ≠ d2 := ne_of_none hdf hd20
      have ne2 : l ≠ d2 := ne_of_none hl2 hd20
      have hd2H : H d2 = none := kp2.free hd20
      refine loop_keysK (fun m σ H4 => Kp H H4 ∧ ∃ o7, σ = [some (.ref a), some (nV many), some (nV most), some (.ref d), some (.int (0 + (i : Int))), some (.ref l), some (.ref q), o7] ∧ H4 d = some (.frz od (.dT (kS L))) ∧ H4 d2 = some (.frz o2 (.dK (kK (sumsOf ms most)))) ∧ H4 l = some (.dT (kS (((grown most ms).take m).foldl putN ((L.take j).foldl (fun l ms => (grown most ms).foldl putN l) [])))) ∧ IT H4 (.ref q) ms) ?_ (fun _ _ _ I => by obtain ⟨_, _, _, _, h, _⟩ := I; exact h) ?_ ?_
      · refine ⟨(kp2.trans k3).put hd2H, _, rfl, ?_, upd_same, ?_, (it.kp k3).tk (Tk.dK hd2)⟩
        · rw [upd_ne ne1]
          exact k3.frz hdf
        · rw [upd_ne ne2]
          exact k3.dT hl2
      · rintro m kx vx σ H4 hkx ⟨kp4, o7, rfl, hdf4, hf4, hl4, it4⟩
        obtain ⟨n, hn, ekx⟩ := map_at hkx
        cases ekx
        refine ⟨_, rfl, _, rfl, _, rfl, by show 1 ≤ sizeLine; decide, fun p hp => ?_⟩
        refine cat_one it4 (by omega) hp fun u H5 k5 iu => ⟨rfl, ms ++ [n], ⟨u, rfl, .inl iu⟩, ?_⟩
        intro u2 H6 k6 iu2
        obtain ⟨b, rfl, hb⟩ := iu2.key
        have k46 := k5.trans k6
        have hl6 := k46.dT hl4
        refine ⟨l, _, rfl, DPut.t hl6 hb ?_, ?_⟩
        · rw [kS_len]
          refine sl (Nat.le_trans (putNs_len _ _) ?_)
          have := grown_len l8 most
          rw [List.length_take]
          omega
        · rw [kS_put]
          refine ⟨(kp4.trans k46).put hl0, _, rfl, ?_, ?_, ?_, ?_⟩
          · rw [upd_ne ndl]
            exact k46.frz hdf4
          · rw [upd_ne (Ne.symm ne2)]
            exact k46.frz hf4
          · have gm : (grown most ms)[m]? = some (inOrder (ms ++ [n])) := by
              unfold grown
              rw [List.getElem?_map, hn]
              rfl
            rw [take_more gm, List.foldl_append]
            exact upd_same
          · exact (it4.kp k46).tk (Tk.dT hl6)
      · rintro σ H4 ⟨kp4, o7, rfl, hdf4, hf4, hl4, it4⟩
        have e1 : (kK (sumsOf ms most)).length = (grown most ms).length := by unfold kK grown; rw [List.length_map, List.length_map]
        rw [e1, List.take_length] at hl4
        refine ⟨kp4, _, _, rfl, hdf4, ?_⟩
        rw [take_more hms, List.foldl_append]
        exact hl4
    · rintro σ H2 ⟨kp2, o6, o7, rfl, hdf, hl2⟩
      rw [kS_len, List.take_length] at hl2
      refine ⟨hdf, _, rfl, kp2.put hd0, l, _, _, _, _, rfl, hl0, ?_⟩
      rw [upd_ne (Ne.symm ndl), hl2]
      show _ = some (HO.dT (kS (filledStep most (iter (filledStep most) i [x]))))
      rw [hL]
      rfl
  · rintro σ H' ⟨kp, d, o4, o5, o6, o7, rfl, hd0, hd⟩
    refine ⟨_, rfl, .inr (.inr (.inl ⟨rfl, .inr ⟨_, hd⟩⟩)), d, _, rfl, rfl, .inl hd, fun p hp => ?_⟩
    refine ⟨_, rfl, p, d, _, rfl, upd_same, .inl ((Kp.new hp).dT hd), fun bs hbs => ?_⟩
    have its := keys_its hbs
    refine ⟨_, its.dp, srt_t _, fun q hq => ?_⟩
    exact k _ _ ((kp.trans (Kp.new hp)).trans (Kp.new hq)) ⟨q, _, rfl, (kp.trans (Kp.new hp)).free hq, upd_same, (sortV_it its).tk (Tk.new hq)⟩
end
end MX
end

section
set_option Elab.async false
set_option linter.all false
set_option maxRecDepth 100000
set_option maxHeartbeats 4000000
namespace MX
open PySem PySem.Spec PyProof.Rows L2
/-- each less than the next -/
def ascB (r : List Nat) : Bool := (List.range (r.length - 1)).all fun i => decide (r.getD i 0 < r.getD (i + 1) 0)
theorem ascB_iff {r : List Nat} : ascB r = true ↔ ∀ i, i + 1 < r.length → r.getD i 0 < r.getD (i + 1) 0 := by
  unfold ascB
  rw [List.all_eq_true]
  constructor
  · intro h i hi
    simpa using h i (List.mem_range.mpr (by omega))
  · intro h i hi
    have := List.mem_range.mp hi
    simpa using h i (by omega)
/-- what is_row says of a tuple of numbers -/
def rowB (many : Nat) (r : List Nat) : Bool := (r.all fun k => decide (k < many)) && ascB r
theorem turns_zip {K : PySem.W.Frag} {H0 : Hp} {Qd : Hp → Prop} {S : V → Hp → (Hp → Prop) → Prop} {a b : Addr} {xs ys : List V} (hle : ys.length ≤ xs.length) (Pv : Nat → Hp → Prop) (h0 : Pv 0 H0) (hq : ∀ i H, Pv i H → SqT K H a xs ∧ SqT K H b ys)
    (hs : ∀ i x y T H, xs[i]? = some x → ys[i]? = some y → Pv i H → H T = none → S (.ref T) (upd H T (.tup [x, y])) (Pv (i + 1))) (hd : ∀ H, Pv ys.length H → Qd H) :
    ∃ W : Nat → Nat → Hp → Prop, (∃ m, W 0 m H0) ∧ ∀ i m H, W i m H → ((RZ.ItzT K a b).stop i H ∧ Qd H) ∨ ((RZ.ItzT K a b).go i H ∧ ∃ Nx : Hp → Prop, (∀ H', Nx H' → ∃ m', m' < m ∧ W (i + 1) m' H') ∧ ∀ x H', (RZ.ItzT K a b).yld i H x H' → S x H' Nx) := by
  refine turns_by (n := ys.length) Pv h0 (fun i H hi p => ⟨xs, ys, _, _, (hq i H p).1, (hq i H p).2, List.getElem?_eq_getElem (by omega), List.getElem?_eq_getElem hi⟩) (fun H p => ⟨xs, ys, (hq _ H p).1, (hq _ H p).2, .inr (Nat.le_refl _)⟩) ?_ hd
  rintro i v H H' hi p ⟨T, x, y, rfl, hT, rfl, gx, gy⟩
  exact hs i x y T H (gx xs (hq i H p).1) (gy ys (hq i H p).2) p hT
section
variable {P : Program} {w : World} {K : PySem.W.Frag} {mg : Str → Option Value} {base : Heap} {f c : Addr} {fd : FuncData}
theorem kit_tt {K : PySem.W.Frag} : PySem.W.kitOne K (.type "tuple") (.type "tuple") = some true := kit_ty (by decide +kernel)
theorem kit_it {K : PySem.W.Frag} : PySem.W.kitOne K (.type "int") (.type "tuple") = some false := kit_ty (by decide +kernel)
theorem kit_nt {K : PySem.W.Frag} : PySem.W.kitOne K (.type "NoneType") (.type "tuple") = some false := kit_ty (by decide +kernel)
theorem kit_lt {K : PySem.W.Frag} : PySem.W.kitOne K (.type "list") (.type "tuple") = some false := kit_ty (by decide +kernel)
abbrev st_is_row : Stmt := topS 10
abbrev N_is_row : List Str := ["value", "many", "one", "other", "part"]
theorem sc_is_row : FnScope N_is_row ["value", "many"] (defScope st_is_row) := ⟨rfl, rfl, rfl, by decide +kernel, rfl, by decide +kernel, by decide +kernel⟩
/-- v is a number (none) or a tuple of numbers -/
def RowV (H : Hp) (v : V) : Option (List Nat) → Prop
  | none => ∃ n : Nat, v = nV n
  | some r => IT H v r
def rowO (many : Nat) : Option (List Nat) → Bool
  | none => false
  | some r => rowB many r
def sp_is_row (T : Addr) : Sp := spR 2 (fun vs H (x : Option (List Nat) × Nat) => ∃ v, vs = [v, nV x.2] ∧ RowV H v x.1 ∧ GxR.TabG H T) fun x v _ => v = .bl (rowO x.2 x.1)
theorem cal_is_row {T : Addr} (F : FunC K mg "is_row" st_is_row f fd c) (TB : GxR.TabB base mg c T) (B : Bi mg) (C_is_number : Cal P w K mg base 1 "is_number" ["value", "low", "high"] sp_is_number) : Cal P w K mg base 3 "is_row" ["value", "many"] (sp_is_row T) := by
  refine F.cal sc_is_row spR_len (fun _ _ _ _ _ _ us hl => match us, hl with | [_, _], _ => rfl) (fun A outer s H vs Q hr h => ?_) spR_E
  refine ⟨_, (pss_cons (ps_if (PW.pt (pw_or (pt_not (pt_val (pe_callB (call_isiK K) (by rfl) B.isi boot_isi (pa_cons (pv 0) (pa_cons (pe_bltn (v := .ty "tuple") (by rfl) B.tuple boot_tuple rfl) pa_nil))))) (pw_or1 (pt_not (pt_val (pe_allG (k := 1) (own := [("part", 4)]) sc_is_row.nd (hr.mono (by decide)) (by rfl) B.all TB rfl (pi_tupK K (hl := (pv 0))) (blkOk_by (own := [("part", 4)]) (N := N_is_row) (sc := defScope st_is_row) (by decide +kernel)) ⟨rfl, by decide +kernel, rfl⟩ (fun _ _ _ _ _ _ _ _ => (pg_name (i := 4) sc_is_row.nd rfl (by first | exact Or.inl rfl | exact Or.inr rfl))) (fun _ _ _ _ _ _ _ _ hr => (pe_cal C_is_number hr (by decide) (by rfl) (pa_cons (pv 4) (pa_cons pe_int (pa_cons (pe_op op_sub (pv 1) pe_int) pa_nil))))) (fun _ => rfl))))))) (pss_one (ps_ret pe_bl)) pss_nil)
  (pss_one (ps_ret (pe_allG (k := 1) (own := [("one", 2), ("other", 3)]) sc_is_row.nd (hr.mono (by decide)) (by rfl) B.all TB rfl (pi_zipAK K (hg := by rfl) (hm := B.zip) (ha := (pa_cons (pv 0) (pa_cons (pe_slice (sl_tupAK K) (pv 0) (po_some pe_int) po_none) pa_nil)))) (blkOk_by (own := [("one", 2), ("other", 3)]) (N := N_is_row) (sc := defScope st_is_row) (by decide +kernel)) ⟨rfl, by decide +kernel, rfl⟩ (fun _ _ _ _ _ _ _ _ => (pg_tupK K (n := 2) (hc := rfl) (h := (pgs_cons (pg_name (i := 2) sc_is_row.nd rfl (by first | exact Or.inl rfl | exact Or.inr rfl)) (pgs_cons (pg_name (i := 3) sc_is_row.nd rfl (by first | exact Or.inl rfl | exact Or.inr rfl)) pgs_nil))))) (fun _ _ _ _ _ _ _ _ hr => (pe_cmpR op_lt (pv 2) (pv 3) (nomark _))) (fun _ => rfl))))), ?_⟩
  obtain ⟨_, ⟨x, many⟩, ⟨v, rfl, hv, tab⟩, k⟩ := h
  cases x with
  | none =>
    obtain ⟨n, rfl⟩ := hv
    refine ⟨_, rfl, _, _, _, _, _, rfl, .ty _, .base (.int _), kit_it, _, rfl, ?_⟩
    exact ifT rfl (ifT rfl (k _ _ (Kp.refl _) rfl))
  | some r =>
    obtain ⟨a, rfl, e⟩ := hv
    refine ⟨_, rfl, _, _, _, _, _, rfl, .ty _, .base (.tup e), kit_tt, _, rfl, ?_⟩
    refine ifF rfl ?_
    -- all numbers are below many
    refine ⟨_, rfl, a, rfl, ⟨_, SqT.of e⟩, tab, fun H2 k2 => ?_⟩
    refine turns_tup (xs := r.map nV) (fun i H' => Kp H H' ∧ ∀ m ∈ r.take i, m < many) ⟨k2, by simp⟩ (fun i H' I => SqT.of (I.1.tup e)) ?_ ?_
    · rintro i y H' hy ⟨kp, lt⟩
      obtain ⟨n, hn, rfl⟩ := map_at hy
      refine ⟨rfl, _, rfl, _, rfl, _, _, rfl, rfl, rfl, (n, 0, (many : Int) - 1), rfl, ?_⟩
      rintro v H3 k3 rfl
      refine ⟨_, rfl, ?_⟩
      have e1 : (decide ((0 : Int) ≤ n) && decide ((n : Int) ≤ (many : Int) - 1)) = decide (n < many) := by
        rw [decide_eq_true (by omega), Bool.true_and]
        exact decide_eq_decide.mpr (by omega)
      dsimp only
      rw [e1]
      refine ite_b (fun hb => ⟨kp.trans k3, ?_⟩) (fun hb => ⟨_, rfl, ifT rfl (k _ _ (kp.trans k3) ?_)⟩)
      · intro m hm
        rw [take_more hn, List.mem_append, List.mem_singleton] at hm
        rcases hm with hm | rfl
        · exact lt m hm
        · simpa using hb
      · dsimp only [rowO, rowB]
        have : (r.all fun k => decide (k < many)) = false := List.all_eq_false.mpr ⟨n, List.mem_of_getElem? hn, by rw [hb]; decide⟩
        rw [this]
        rfl
    · rintro H' ⟨kp, lt⟩
      rw [List.length_map, List.take_length] at lt
      have all : (r.all fun k => decide (k < many)) = true := List.all_eq_true.mpr fun m hm => decide_eq_true (lt m hm)
      have e' := kp.tup e
      refine ⟨_, rfl, ifF rfl ?_⟩
      refine ⟨_, rfl, tsl_from (n := 1) rfl rfl ⟨a, rfl, e'⟩ fun u H2 k2 iu => ?_⟩
      obtain ⟨b, rfl, eb⟩ := iu
      refine ⟨a, b, r.map nV, (r.drop 1).map nV, rfl, .inr ⟨SqT.of (k2.tup e'), SqT.of eb, (kp.trans k2).tab tab, fun H3 k3 => ?_⟩⟩
      refine turns_zip (by rw [List.length_map, List.length_map, List.length_drop]; omega) (fun i H' => Kp H H' ∧ H' b = some (.tup ((r.drop 1).map nV)) ∧ ∀ j, j < i → r.getD j 0 < r.getD (j + 1) 0) ⟨(kp.trans k2).trans k3, k3.tup eb, fun j hj => absurd hj (Nat.not_lt_zero _)⟩ (fun i H' I => ⟨SqT.of (I.1.tup e), SqT.of I.2.1⟩) ?_ ?_
      · rintro i x y T2 H4 hx hy ⟨kp4, eb4, lt4⟩ hT
        obtain ⟨n, hn, rfl⟩ := map_at hx
        obtain ⟨m, hm, rfl⟩ := map_at hy
        have hm : r[i + 1]? = some m := by rw [List.getElem?_drop, Nat.add_comm] at hm; exact hm
        have g1 : r.getD i 0 = n := by rw [List.getD_eq_getElem?_getD, hn]; rfl
        have g2 : r.getD (i + 1) 0 = m := by rw [List.getD_eq_getElem?_getD, hm]; rfl
        refine ⟨T2, _, rfl, SqT.of upd_same, rfl, _, _, rfl, _, _, rfl, rfl, rfl, _, rfl, _, rfl, _, _, rfl, rfl, _, rfl, ?_⟩
        have k5 := kp4.put (p := T2) (o := .tup [nV n, nV m]) (kp4.free hT)
        refine ite_b (fun hb => ⟨k5, by rw [upd_ne (ne_of_none eb4 hT)]; exact eb4, fun j hj => ?_⟩) (fun hb => k _ _ k5 ?_)
        · by_cases z : j = i
          · subst z
            rw [g1, g2]
            have : (n : Int) < m := by simpa using hb
            omega
          · exact lt4 j (by omega)
        · dsimp only [rowO, rowB]
          rw [all, Bool.true_and]
          congr 1
          refine (Bool.eq_false_iff.mpr fun z => ?_).symm
          have q := ascB_iff.mp z i (List.getElem?_eq_some_iff.mp hm).1
          rw [g1, g2] at q
          have : ¬ (n : Int) < m := by simpa using hb
          omega
      · rintro H4 ⟨kp4, eb4, lt4⟩
        refine k _ _ kp4 ?_
        dsimp only [rowO, rowB]
        rw [all, Bool.true_and]
        congr 1
        refine (ascB_iff.mpr fun i hi => lt4 i ?_).symm
        rw [List.length_map, List.length_drop]
        omega
end
end MX
end

section
set_option Elab.async false
set_option linter.all false
set_option maxRecDepth 100000
set_option maxHeartbeats 4000000
namespace MX
open PySem PySem.Spec PyProof.Rows L2
section
variable {P : Program} {w : World} {K : PySem.W.Frag} {mg : Str → Option Value} {base : Heap} {f c : Addr} {fd : FuncData}
theorem dec_nn {i j : Int} : decide (V.int i = V.int j) = decide (i = j) := decide_eq_decide.mpr ⟨fun h => by injection h, fun h => by rw [h]⟩
abbrev st_need_library : Stmt := topS 11
abbrev N_need_library : List Str := ["value", "tablets", "texts", "tablet"]
theorem sc_need_library : FnScope N_need_library ["value"] (defScope st_need_library) := ⟨rfl, rfl, rfl, by decide +kernel, rfl, by decide +kernel, by decide +kernel⟩
/-- a library that need_library lets pass -/
structure LibGood (t : Nat) (l : List (List Nat)) : Prop where
  t1 : 1 ≤ t
  t3 : t ≤ 3
  l1 : 1 ≤ l.length
  l6 : l.length ≤ 6
  row : ∀ r ∈ l, rowB t r = true
def sp_need_library (T1 T2 : Addr) : Sp := spR 1 (fun vs H (x : Nat × List (List Nat)) => ∃ v, vs = [v] ∧ Lib H v x.1 x.2 ∧ LibGood x.1 x.2 ∧ GxR.TabG H T1 ∧ GxR.TabG H T2) fun _ v _ => v = .non
theorem cal_need_library {T1 T2 : Addr} (F : FunC K mg "need_library" st_need_library f fd c) (TB : GxR.TabB base mg c T2) (B : Bi mg) (C_is_number : Cal P w K mg base 1 "is_number" ["value", "low", "high"] sp_is_number) (C_is_row : Cal P w K mg base 3 "is_row" ["value", "many"] (sp_is_row T1)) : Cal P w K mg base 5 "need_library" ["value"] (sp_need_library T1 T2) := by
  refine F.cal sc_need_library spR_len (fun _ _ _ _ _ _ us hl => match us, hl with | [_], _ => rfl) (fun A outer s H vs Q hr h => ?_) spR_E
  refine ⟨_, (pss_cons (ps_if (PW.pt (pw_or (pt_not (pt_val (pe_callB (call_isiK K) (by rfl) B.isi boot_isi (pa_cons (pv 0) (pa_cons (pe_bltn (v := .ty "tuple") (by rfl) B.tuple boot_tuple rfl) pa_nil))))) (pw_or1 (pt_cmpR op_ne (pe_callB (call_len_seqK K) (by rfl) B.len PySem.boot_len (pa_cons (pv 0) pa_nil)) pe_int (nomark _))))) (pss_one ps_never) pss_nil)
  (pss_cons (ps_asg (pv 0) (pg_tupK K (n := 2) (hc := rfl) (h := (pgs_cons (pg_name (i := 2) sc_need_library.nd rfl (by first | exact Or.inl rfl | exact Or.inr rfl)) (pgs_cons (pg_name (i := 1) sc_need_library.nd rfl (by first | exact Or.inl rfl | exact Or.inr rfl)) pgs_nil)))))
  (pss_cons (ps_if (pt_not (pt_val (pe_cal C_is_number hr (by decide) (by rfl) (pa_cons (pv 2) (pa_cons pe_int (pa_cons (pe_glob (v := .int 3) (by rfl) B.mtexts.choose_spec ⟨_, rfl⟩) pa_nil)))))) (pss_one ps_never) pss_nil)
  (pss_cons (ps_if (PW.pt (pw_or (pt_not (pt_val (pe_callB (call_isiK K) (by rfl) B.isi boot_isi (pa_cons (pv 1) (pa_cons (pe_bltn (v := .ty "tuple") (by rfl) B.tuple boot_tuple rfl) pa_nil))))) (pw_or1 (pt_not (pt_chain op_le op_le pe_int (pe_callB (call_len_seqK K) (by rfl) B.len PySem.boot_len (pa_cons (pv 1) pa_nil)) (pe_glob (v := .int 6) (by rfl) B.mtabs.choose_spec ⟨_, rfl⟩)))))) (pss_one ps_never) pss_nil)
  (pss_one (ps_if (pt_not (pt_val (pe_allG (k := 3) (own := [("tablet", 3)]) sc_need_library.nd (hr.mono (by decide)) (by rfl) B.all TB rfl (pi_tupK K (hl := (pv 1))) (blkOk_by (own := [("tablet", 3)]) (N := N_need_library) (sc := defScope st_need_library) (by decide +kernel)) ⟨rfl, by decide +kernel, rfl⟩ (fun _ _ _ _ _ _ _ _ => (pg_name (i := 3) sc_need_library.nd rfl (by first | exact Or.inl rfl | exact Or.inr rfl))) (fun _ _ _ _ _ _ _ _ hr => (pe_cal C_is_row hr (by decide) (by rfl) (pa_cons (pv 3) (pa_cons (pv 2) pa_nil)))) (fun _ => rfl)))) (pss_one ps_never) pss_nil)))))), ?_⟩
  obtain ⟨_, ⟨t, l⟩, ⟨v, rfl, ⟨a, b, xs, rfl, e1, e2, its⟩, g, tab1, tab2⟩, k⟩ := h
  have hl := its.length
  refine ⟨_, rfl, _, _, _, _, _, rfl, .ty _, .base (.tup e1), kit_tt, _, rfl, ?_⟩
  refine ifF rfl ⟨_, rfl, a, _, rfl, .inr (SqT.of e1), rfl, _, rfl, ifF rfl ?_⟩
  refine ⟨_, rfl, a, _, rfl, SqT.of e1, rfl, _, _, rfl, _, _, rfl, rfl, ?_⟩
  refine ⟨_, rfl, rfl, (t, 1, 3), rfl, ?_⟩
  rintro v H1 k1 rfl
  have c1 : (decide ((1 : Int) ≤ (t : Int)) && decide ((t : Int) ≤ 3)) = true := by
    have := g.t1
    have := g.t3
    simp only [Bool.and_eq_true, decide_eq_true_eq]
    omega
  refine ⟨_, rfl, ifF (by rw [c1]; rfl) ?_⟩
  refine ⟨_, rfl, _, _, _, _, _, rfl, .ty _, .base (.tup (k1.tup e2)), kit_tt, _, rfl, ?_⟩
  refine ifF rfl ⟨_, rfl, b, _, rfl, .inr (SqT.of (k1.tup e2)), _, _, rfl, rfl, _, rfl, ?_⟩
  have c2 : decide ((1 : Int) ≤ (xs.length : Int)) = true := decide_eq_true (by have := g.l1; omega)
  have c3 : decide ((xs.length : Int) ≤ (6 : Int)) = true := decide_eq_true (by have := g.l6; omega)
  refine ifT c2 ⟨_, _, rfl, rfl, _, rfl, ifF (by rw [c3]; rfl) ?_⟩
  refine ⟨_, rfl, b, rfl, ⟨_, SqT.of (k1.tup e2)⟩, k1.tab tab2, fun H2 k2 => ?_⟩
  refine turns_tup (xs := xs) (fun i H' => Kp H H') (k1.trans k2) (fun i H' I => SqT.of (I.tup e2)) ?_ ?_
  · intro i y H' hy kp
    obtain ⟨r, hr, it⟩ := Paired.at' its hy
    refine ⟨rfl, _, rfl, _, rfl, rfl, (some r, t), ⟨y, rfl, it.kp kp, kp.tab tab1⟩, ?_⟩
    rintro v H3 k3 rfl
    exact ⟨_, rfl, ifT (g.row r (List.mem_of_getElem? hr)) (kp.trans k3)⟩
  · intro H' kp
    exact ⟨_, rfl, ifF rfl (k _ _ kp rfl)⟩
abbrev st_need_sizes : Stmt := topS 23
abbrev N_need_sizes : List Str := ["texts", "tablets", "most"]
theorem sc_need_sizes : FnScope N_need_sizes ["texts", "tablets", "most"] (defScope st_need_sizes) := ⟨rfl, rfl, rfl, by decide +kernel, rfl, by decide +kernel, by decide +kernel⟩
def sp_need_sizes : Sp := spR 3 (fun vs H (x : Nat × Nat × Nat) => vs = [nV x.1, nV x.2.1, nV x.2.2] ∧ 1 ≤ x.1 ∧ x.1 ≤ 3 ∧ 1 ≤ x.2.1 ∧ x.2.1 ≤ 6 ∧ 1 ≤ x.2.2 ∧ x.2.2 ≤ 3) fun _ v _ => v = .non
theorem cal_need_sizes (F : FunC K mg "need_sizes" st_need_sizes f fd c) (B : Bi mg) (C_is_number : Cal P w K mg base 1 "is_number" ["value", "low", "high"] sp_is_number) (C_need_most : Cal P w K mg base 2 "need_most" ["value"] sp_need_most) : Cal P w K mg base 3 "need_sizes" ["texts", "tablets", "most"] sp_need_sizes := by
  refine F.cal sc_need_sizes spR_len (fun _ _ _ _ _ _ us hl => match us, hl with | [_, _, _], _ => rfl) (fun A outer s H vs Q hr h => ?_) spR_E
  refine ⟨_, (pss_cons (ps_if (PW.pt (pw_or (pt_not (pt_val (pe_cal C_is_number hr (by decide) (by rfl) (pa_cons (pv 0) (pa_cons pe_int (pa_cons (pe_glob (v := .int 3) (by rfl) B.mtexts.choose_spec ⟨_, rfl⟩) pa_nil)))))) (pw_or1 (pt_not (pt_val (pe_cal C_is_number hr (by decide) (by rfl) (pa_cons (pv 1) (pa_cons pe_int (pa_cons (pe_glob (v := .int 6) (by rfl) B.mtabs.choose_spec ⟨_, rfl⟩) pa_nil))))))))) (pss_one ps_never) pss_nil)
  (pss_one (ps_expr (pe_cal C_need_most hr (by decide) (by rfl) (pa_cons (pv 2) pa_nil))))), ?_⟩
  obtain ⟨_, ⟨a, b, d⟩, ⟨rfl, h1, h2, h3, h4, h5, h6⟩, k⟩ := h
  dsimp only at h1 h2 h3 h4 h5 h6
  refine ⟨_, rfl, rfl, (a, 1, 3), rfl, ?_⟩
  rintro v H1 k1 rfl
  have c1 : (decide ((1 : Int) ≤ (a : Int)) && decide ((a : Int) ≤ 3)) = true := by simp only [Bool.and_eq_true, decide_eq_true_eq]; omega
  refine ⟨_, rfl, ifF (by rw [c1]; rfl) ⟨_, rfl, rfl, (b, 1, 6), rfl, ?_⟩⟩
  rintro v H2 k2 rfl
  have c2 : (decide ((1 : Int) ≤ (b : Int)) && decide ((b : Int) ≤ 6)) = true := by simp only [Bool.and_eq_true, decide_eq_true_eq]; omega
  refine ⟨_, rfl, ifF (by rw [c2]; rfl) ?_⟩
  refine ⟨_, rfl, rfl, (d : Int), ⟨rfl, by omega, by omega⟩, ?_⟩
  rintro v H3 k3 rfl
  exact k _ _ ((k1.trans k2).trans k3) rfl
abbrev st_need_flood : Stmt := topS 33
abbrev N_need_flood : List Str := ["library", "most", "melts"]
theorem sc_need_flood : FnScope N_need_flood ["library", "most", "melts"] (defScope st_need_flood) := ⟨rfl, rfl, rfl, by decide +kernel, rfl, by decide +kernel, by decide +kernel⟩
def sp_need_flood (T1 T2 : Addr) : Sp := spR 3 (fun vs H (x : Nat × List (List Nat) × Nat × Nat) => ∃ v, vs = [v, nV x.2.2.1, nV x.2.2.2] ∧ Lib H v x.1 x.2.1 ∧ LibGood x.1 x.2.1 ∧ 1 ≤ x.2.2.1 ∧ x.2.2.1 ≤ 3 ∧ 1 ≤ x.2.2.2 ∧ x.2.2.2 ≤ 3 ∧ x.2.2.2 ≤ x.2.1.length ∧ GxR.TabG H T1 ∧ GxR.TabG H T2) fun _ v _ => v = .non
theorem cal_need_flood {T1 T2 : Addr} (F : FunC K mg "need_flood" st_need_flood f fd c) (B : Bi mg) (C_is_number : Cal P w K mg base 1 "is_number" ["value", "low", "high"] sp_is_number) (C_need_most : Cal P w K mg base 2 "need_most" ["value"] sp_need_most) (C_need_library : Cal P w K mg base 5 "need_library" ["value"] (sp_need_library T1 T2)) : Cal P w K mg base 6 "need_flood" ["library", "most", "melts"] (sp_need_flood T1 T2) := by
  refine F.cal sc_need_flood spR_len (fun _ _ _ _ _ _ us hl => match us, hl with | [_, _, _], _ => rfl) (fun A outer s H vs Q hr h => ?_) spR_E
  refine ⟨_, (pss_cons (ps_expr (pe_cal C_need_library hr (by decide) (by rfl) (pa_cons (pv 0) pa_nil)))
  (pss_cons (ps_expr (pe_cal C_need_most hr (by decide) (by rfl) (pa_cons (pv 1) pa_nil)))
  (pss_one (ps_if (pt_not (pt_val (pe_cal C_is_number hr (by decide) (by rfl) (pa_cons (pv 2) (pa_cons pe_int (pa_cons (pe_callB (call_min2 rfl) (by rfl) B.min boot_min (pa_cons (pe_glob (v := .int 3) (by rfl) B.mmelts.choose_spec ⟨_, rfl⟩) (pa_cons (pe_callB (call_len_seqK K) (by rfl) B.len PySem.boot_len (pa_cons (pe_ix (ix_tupK K) (pv 0) pe_int (fun _ _ => rfl)) pa_nil)) pa_nil))) pa_nil)))))) (pss_one ps_never) pss_nil)))), ?_⟩
  obtain ⟨_, ⟨t, l, most, melts⟩, ⟨v, rfl, lib, g, h1, h2, h3, h4, h5, tab1, tab2⟩, k⟩ := h
  dsimp only at lib g h1 h2 h3 h4 h5
  refine ⟨_, rfl, rfl, (t, l), ⟨v, rfl, lib, g, tab1, tab2⟩, ?_⟩
  rintro _ H1 k1 rfl
  refine ⟨_, rfl, rfl, (most : Int), ⟨rfl, by omega, by omega⟩, ?_⟩
  rintro _ H2 k2 rfl
  obtain ⟨a, b, xs, rfl, e1, e2, its⟩ := lib.kp (k1.trans k2)
  have hl := its.length
  refine ⟨_, rfl, _, rfl, a, _, _, _, rfl, rfl, SqT.of e1, atI_nat (j := 1) rfl, b, _, rfl, .inr (SqT.of e2), _, _, rfl, ?_⟩
  refine ⟨rfl, (melts, 1, if (xs.length : Int) < 3 then (xs.length : Int) else 3), rfl, ?_⟩
  rintro _ H3 k3 rfl
  have c1 : (decide ((1 : Int) ≤ (melts : Int)) && decide ((melts : Int) ≤ if (xs.length : Int) < 3 then (xs.length : Int) else 3)) = true := by
    simp only [Bool.and_eq_true, decide_eq_true_eq]
    refine ⟨by omega, ?_⟩
    split <;> omega
  exact ⟨_, rfl, ifF (by rw [c1]; rfl) (k _ _ ((k1.trans k2).trans k3) rfl)⟩
end
end MX
end

section
set_option Elab.async false
set_option linter.all false
set_option maxRecDepth 100000
set_option maxHeartbeats 4000000
namespace MX
open PySem PySem.Spec PyProof.Rows L2
/-- t[n:], t any tuple -/
theorem tsl_fromV {K : PySem.W.Frag} {σ : L2.St} {H : Hp} {Q : VK} {i : Nat} {a : Addr} {xs : List V} {n : Nat} {c : Int} (hc : c = (n : Int)) (h : σ[i]? = some (some (.ref a))) (e : H a = some (.tup xs)) (k : ∀ b H2, Kp H H2 → H2 b = some (.tup (xs.drop n)) → Q (.ref b) H2) : tSl (rSlA K) (tVar i) (tPart (tC (.int c))) tNoPart σ H Q := by
  refine ⟨_, h, c, rfl, (show rSlA K (.ref a) (some c) none H Q from ?_)⟩
  rw [hc]
  refine ⟨a, xs, rfl, SqT.of e, fun hw => ?_, fun _ p hp => ?_⟩
  · have h2 := hw.1
    rw [HT.sIx_nat] at h2
    refine k _ _ (Kp.refl _) ?_
    by_cases z : n = 0
    · subst z
      exact e
    · have : xs = [] := List.eq_nil_of_length_eq_zero (by omega)
      subst this
      rw [List.drop_nil]
      exact e
  · refine k _ _ (Kp.new hp) ?_
    rw [upd_same]
    unfold cutV
    rw [HT.sIx_none, HT.sIx_nat]
    congr 2
    by_cases z : n ≤ xs.length
    · rw [Nat.min_eq_left z, List.take_of_length_le (by rw [List.length_drop]; exact Nat.le_refl _)]
    · rw [Nat.min_eq_right (by omega), Nat.sub_self, List.take_zero, List.drop_eq_nil_of_le (by omega)]
/-! ### is_sorted_library -/
/-- none is less than the one before it -/
def nascB (l : List (List Nat)) : Bool := (List.range (l.length - 1)).all fun i => !decide (l.getD (i + 1) [] < l.getD i [])
theorem nascB_iff {r : List (List Nat)} : nascB r = true ↔ ∀ i, i + 1 < r.length → ¬ r.getD (i + 1) [] < r.getD i [] := by
  unfold nascB
  rw [List.all_eq_true]
  constructor
  · intro h i hi
    simpa using h i (List.mem_range.mpr (by omega))
  · intro h i hi
    have := List.mem_range.mp hi
    simpa using h i (by omega)
/-- what may stand among the values that are shown: none, or (t, (row, ..)), a row a number or a tuple -/
def LibV (H : Hp) (v : V) : Option (Nat × List (Option (List Nat))) → Prop
  | none => v = .non
  | some (t, l) => ∃ a b vs, v = .ref a ∧ H a = some (.tup [nV t, .ref b]) ∧ H b = some (.tup vs) ∧ Paired (RowV H) vs l
theorem RowV.tk {H H' : Hp} {v : V} {o : Option (List Nat)} (h : RowV H v o) (k : Tk H H') : RowV H' v o := by
  cases o with
  | none => exact h
  | some r => exact IT.tk h k
theorem LibV.tk {H H' : Hp} {v : V} {o : Option (Nat × List (Option (List Nat)))} (h : LibV H v o) (k : Tk H H') : LibV H' v o := by
  cases o with
  | none => exact h
  | some p =>
    obtain ⟨t, l⟩ := p
    obtain ⟨a, b, vs, e, p, q, r⟩ := h
    exact ⟨a, b, vs, e, k _ _ p, k _ _ q, Paired.mono (fun _ _ z => z.tk k) r⟩
/-- .. of texts T, of n tablets -/
def sortedV (T n : Nat) : Option (Nat × List (Option (List Nat))) → Bool
  | none => false
  | some (t, l) => decide (t = T) && decide (l.length = n) && (l.all (rowO T)) && nascB (l.map fun o => o.getD [])
section
variable {P : Program} {w : World} {K : PySem.W.Frag} {mg : Str → Option Value} {base : Heap} {f c : Addr} {fd : FuncData}
abbrev st_is_sorted_library : Stmt := topS 27
abbrev N_is_sorted_library : List Str := ["library", "value", "tablets", "one", "other", "tablet"]
theorem sc_is_sorted_library : FnScope N_is_sorted_library ["library", "value"] (defScope st_is_sorted_library) := ⟨rfl, rfl, rfl, by decide +kernel, rfl, by decide +kernel, by decide +kernel⟩
def sp_is_sorted_library (T1 T3 : Addr) : Sp := spR 2 (fun vs H (x : (Nat × List (List Nat)) × Option (Nat × List (Option (List Nat)))) => ∃ v u, vs = [v, u] ∧ Lib H v x.1.1 x.1.2 ∧ LibV H u x.2 ∧ GxR.TabG H T1 ∧ GxR.TabG H T3) fun x v _ => v = .bl (sortedV x.1.1 x.1.2.length x.2)
theorem cal_is_sorted_library {T1 T3 : Addr} (F : FunC K mg "is_sorted_library" st_is_sorted_library f fd c) (TB : GxR.TabB base mg c T3) (B : Bi mg) (C_is_number : Cal P w K mg base 1 "is_number" ["value", "low", "high"] sp_is_number) (C_is_row : Cal P w K mg base 3 "is_row" ["value", "many"] (sp_is_row T1)) : Cal P w K mg base 5 "is_sorted_library" ["library", "value"] (sp_is_sorted_library T1 T3) := by
  refine F.cal sc_is_sorted_library spR_len (fun _ _ _ _ _ _ us hl => match us, hl with | [_, _], _ => rfl) (fun A outer s H vs Q hr h => ?_) spR_E
  refine ⟨_, (pss_cons (ps_if (PW.pt (pw_or (pt_not (pt_val (pe_callB (call_isiK K) (by rfl) B.isi boot_isi (pa_cons (pv 1) (pa_cons (pe_bltn (v := .ty "tuple") (by rfl) B.tuple boot_tuple rfl) pa_nil))))) (pw_or (pt_cmpR op_ne (pe_callB (call_len_seqK K) (by rfl) B.len PySem.boot_len (pa_cons (pv 1) pa_nil)) pe_int (nomark _)) (pw_or1 (pt_not (pt_val (pe_cal C_is_number hr (by decide) (by rfl) (pa_cons (pe_ix (ix_tupK K) (pv 1) pe_int (fun _ _ => rfl)) (pa_cons (pe_ix (ix_tupK K) (pv 0) pe_int (fun _ _ => rfl)) (pa_cons (pe_ix (ix_tupK K) (pv 0) pe_int (fun _ _ => rfl)) pa_nil)))))))))) (pss_one (ps_ret pe_bl)) pss_nil)
  (pss_cons (ps_set (i := 2) sc_is_sorted_library.nd rfl (Or.inl rfl) (pe_ix (ix_tupK K) (pv 1) pe_int (fun _ _ => rfl)))
  (pss_cons (ps_if (PW.pt (pw_or (pt_not (pt_val (pe_callB (call_isiK K) (by rfl) B.isi boot_isi (pa_cons (pv 2) (pa_cons (pe_bltn (v := .ty "tuple") (by rfl) B.tuple boot_tuple rfl) pa_nil))))) (pw_or1 (pt_cmpR op_ne (pe_callB (call_len_seqK K) (by rfl) B.len PySem.boot_len (pa_cons (pv 2) pa_nil)) (pe_callB (call_len_seqK K) (by rfl) B.len PySem.boot_len (pa_cons (pe_ix (ix_tupK K) (pv 0) pe_int (fun _ _ => rfl)) pa_nil)) (nomark _))))) (pss_one (ps_ret pe_bl)) pss_nil)
  (pss_cons (ps_if (pt_not (pt_val (pe_allG (k := 3) (own := [("tablet", 5)]) sc_is_sorted_library.nd (hr.mono (by decide)) (by rfl) B.all TB rfl (pi_tupK K (hl := (pv 2))) (blkOk_by (own := [("tablet", 5)]) (N := N_is_sorted_library) (sc := defScope st_is_sorted_library) (by decide +kernel)) ⟨rfl, by decide +kernel, rfl⟩ (fun _ _ _ _ _ _ _ _ => (pg_name (i := 5) sc_is_sorted_library.nd rfl (by first | exact Or.inl rfl | exact Or.inr rfl))) (fun _ _ _ _ _ _ _ _ hr => (pe_cal C_is_row hr (by decide) (by rfl) (pa_cons (pv 5) (pa_cons (pe_ix (ix_tupK K) (pv 0) pe_int (fun _ _ => rfl)) pa_nil)))) (fun _ => rfl)))) (pss_one (ps_ret pe_bl)) pss_nil)
  (pss_one (ps_ret (pe_allG (k := 3) (own := [("one", 3), ("other", 4)]) sc_is_sorted_library.nd (hr.mono (by decide)) (by rfl) B.all TB rfl (pi_zipAK K (hg := by rfl) (hm := B.zip) (ha := (pa_cons (pv 2) (pa_cons (pe_slice (sl_tupAK K) (pv 2) (po_some pe_int) po_none) pa_nil)))) (blkOk_by (own := [("one", 3), ("other", 4)]) (N := N_is_sorted_library) (sc := defScope st_is_sorted_library) (by decide +kernel)) ⟨rfl, by decide +kernel, rfl⟩ (fun _ _ _ _ _ _ _ _ => (pg_tupK K (n := 2) (hc := rfl) (h := (pgs_cons (pg_name (i := 3) sc_is_sorted_library.nd rfl (by first | exact Or.inl rfl | exact Or.inr rfl)) (pgs_cons (pg_name (i := 4) sc_is_sorted_library.nd rfl (by first | exact Or.inl rfl | exact Or.inr rfl)) pgs_nil))))) (fun _ _ _ _ _ _ _ _ hr => (pe_cmpR (op_leDK K (hu := un_of hr (by decide))) (pv 3) (pv 4) (nomark _))) (fun _ => rfl)))))))), ?_⟩
  obtain ⟨_, ⟨⟨T, ls⟩, o⟩, ⟨v, u, rfl, lib, val, tab1, tab3⟩, k⟩ := h
  dsimp only at lib val
  cases o with
  | none =>
    obtain rfl : u = .non := val
    exact ⟨_, rfl, _, _, _, _, _, rfl, .ty _, .base .non, kit_nt, _, rfl, ifT rfl (ifT rfl (k _ _ (Kp.refl _) rfl))⟩
  | some p =>
    obtain ⟨t, l⟩ := p
    obtain ⟨a, b, ys, rfl, e1, e2, its⟩ := val
    obtain ⟨a0, b0, xs, rfl, f1, f2, its0⟩ := lib
    have hl := its.length
    have hl0 := its0.length
    dsimp only [sortedV] at k
    refine ⟨_, rfl, _, _, _, _, _, rfl, .ty _, .base (.tup e1), kit_tt, _, rfl, ?_⟩
    refine ifF rfl ⟨_, rfl, a, _, rfl, .inr (SqT.of e1), rfl, _, rfl, ifF rfl ?_⟩
    refine ⟨_, rfl, a, _, 0, _, rfl, rfl, SqT.of e1, atI_nat (j := 0) rfl, _, rfl, a0, _, 0, _, rfl, rfl, SqT.of f1, atI_nat (j := 0) rfl, _, rfl, a0, _, 0, _, rfl, rfl, SqT.of f1, atI_nat (j := 0) rfl, ?_⟩
    refine ⟨rfl, (t, T, T), rfl, ?_⟩
    rintro _ H1 k1 rfl
    have c1 : (decide ((T : Int) ≤ (t : Int)) && decide ((t : Int) ≤ (T : Int))) = decide (t = T) := by
      rw [Bool.eq_iff_iff]
      simp only [Bool.and_eq_true, decide_eq_true_eq]
      omega
    refine ⟨_, rfl, ?_⟩
    dsimp only
    rw [c1]
    by_cases ht : t = T
    · subst ht
      rw [decide_eq_true (rfl : t = t)]
      refine ifF rfl ?_
      refine ⟨_, rfl, a, _, 1, _, rfl, rfl, SqT.of (k1.tup e1), atI_nat (j := 1) rfl, ?_⟩
      refine ⟨_, rfl, _, _, _, _, _, rfl, .ty _, .base (.tup (k1.tup e2)), kit_tt, _, rfl, ifF rfl ?_⟩
      refine ⟨_, rfl, b, _, rfl, .inr (SqT.of (k1.tup e2)), _, rfl, a0, _, 1, _, rfl, rfl, SqT.of (k1.tup f1), atI_nat (j := 1) rfl, b0, _, rfl, .inr (SqT.of (k1.tup f2)), rfl, _, rfl, ?_⟩
      have c2 : (!decide (V.int (ys.length : Int) = V.int (xs.length : Int))) = !decide (l.length = ls.length) := by
        rw [dec_nn, hl, hl0]
        congr 1
        exact decide_eq_decide.mpr (by omega)
      rw [c2]
      by_cases hn : l.length = ls.length
      · rw [decide_eq_true hn]
        refine ifF rfl ?_
        refine ⟨_, rfl, b, rfl, ⟨_, SqT.of (k1.tup e2)⟩, k1.tab tab3, fun H2 k2 => ?_⟩
        refine turns_tup (xs := ys) (fun i H' => Kp H H' ∧ ∀ o ∈ l.take i, rowO t o = true) ⟨k1.trans k2, by simp⟩ (fun i H' I => SqT.of (I.1.tup e2)) ?_ ?_
        · rintro i y H' hy ⟨kp, ok⟩
          obtain ⟨o, ho, it⟩ := Paired.at' its hy
          refine ⟨rfl, _, rfl, _, rfl, a0, _, 0, _, rfl, rfl, SqT.of (kp.tup f1), atI_nat (j := 0) rfl, rfl, (o, t), ⟨y, rfl, it.tk kp.tk, kp.tab tab1⟩, ?_⟩
          rintro _ H3 k3 rfl
          refine ⟨_, rfl, ?_⟩
          refine ite_b (fun hb => ⟨kp.trans k3, ?_⟩) (fun hb => ⟨_, rfl, ifT rfl (k _ _ (kp.trans k3) ?_)⟩)
          · intro m hm
            rw [take_more ho, List.mem_append, List.mem_singleton] at hm
            rcases hm with hm | rfl
            · exact ok m hm
            · exact hb
          · have : l.all (rowO t) = false := List.all_eq_false.mpr ⟨o, List.mem_of_getElem? ho, by rw [show rowO t o = false from hb]; decide⟩
            rw [this, Bool.and_false, Bool.false_and]
        · rintro H' ⟨kp, ok⟩
          rw [hl, List.take_length] at ok
          have all : l.all (rowO t) = true := List.all_eq_true.mpr ok
          refine ⟨_, rfl, ifF rfl ?_⟩
          have its2 : ITs H' ys (l.map fun o => o.getD []) := by
            have : ∀ {ys : List V} {l : List (Option (List Nat))}, Paired (RowV H) ys l → (∀ o ∈ l, rowO t o = true) → ITs H' ys (l.map fun o => o.getD []) := by
              intro ys l h
              induction h with
              | nil => intro _; exact .nil
              | @cons y o ys l h1 h2 ih =>
                intro ok
                cases o with
                | none => exact absurd (ok none (by simp)) (by intro z; cases z)
                | some r => exact .cons (IT.kp h1 kp) (ih fun o ho => ok o (by simp [ho]))
            exact this its ok
          generalize hr : (l.map fun o => o.getD []) = r at its2 k
          have lr := its2.length
          refine ⟨_, rfl, tsl_fromV (n := 1) rfl rfl (kp.tup e2) fun u H2 k2 eu => ?_⟩
          refine ⟨b, u, ys, ys.drop 1, rfl, .inr ⟨SqT.of (k2.tup (kp.tup e2)), SqT.of eu, (kp.trans k2).tab tab3, fun H3 k3 => ?_⟩⟩
          refine turns_zip (by rw [List.length_drop]; omega) (fun i H' => Kp H2 H' ∧ ∀ j, j < i → ¬ r.getD (j + 1) [] < r.getD j []) ⟨k3, fun j hj => absurd hj (Nat.not_lt_zero _)⟩ (fun i H' I => ⟨SqT.of (I.1.tup (k2.tup (kp.tup e2))), SqT.of (I.1.tup eu)⟩) ?_ ?_
          · rintro i x y T2 H4 hx hy ⟨kp4, lt4⟩ hT
            obtain ⟨n, hn, itn⟩ := Paired.at' its2 hx
            have hy : ys[i + 1]? = some y := by rw [List.getElem?_drop, Nat.add_comm] at hy; exact hy
            obtain ⟨m, hm, itm⟩ := Paired.at' its2 hy
            have g1 : r.getD i [] = n := by rw [List.getD_eq_getElem?_getD, hn]; rfl
            have g2 : r.getD (i + 1) [] = m := by rw [List.getD_eq_getElem?_getD, hm]; rfl
            have k5 := kp4.trans (Kp.new (o := .tup [x, y]) hT)
            refine ⟨T2, _, rfl, SqT.of upd_same, rfl, _, _, rfl, _, _, rfl, rfl, rfl, _, rfl, _, rfl, tD n, tD m, (itn.kp (k2.trans k5)).dp, (itm.kp (k2.trans k5)).dp, alike_t n m, (by intro z; cases z), (by rw [depth_t]; decide), _, rfl, ?_⟩
            rw [tD_lt]
            refine ite_b (fun hb => ⟨k5, fun j hj => ?_⟩) (fun hb => k _ _ ((kp.trans k2).trans k5) ?_)
            · by_cases z : j = i
              · subst z
                rw [g1, g2]
                simpa using hb
              · exact lt4 j (by omega)
            · congr 1
              refine (Bool.and_eq_false_iff.mpr (.inr (Bool.eq_false_iff.mpr fun z => ?_))).symm
              have q := nascB_iff.mp z i (List.getElem?_eq_some_iff.mp hm).1
              rw [g1, g2] at q
              have : m < n := by simpa using hb
              exact q this
          · rintro H4 ⟨kp4, lt4⟩
            refine k _ _ ((kp.trans k2).trans kp4) ?_
            rw [all, decide_eq_true (rfl : t = t), decide_eq_true hn, Bool.true_and, Bool.true_and, Bool.true_and]
            congr 1
            refine (nascB_iff.mpr fun i hi => lt4 i ?_).symm
            rw [List.length_drop]
            omega
      · rw [decide_eq_false hn]
        exact ifT rfl (k _ _ k1 (by rw [decide_eq_false hn]; simp))
    · rw [decide_eq_false ht]
      exact ifT rfl (k _ _ k1 (by rw [decide_eq_false ht]; simp))
end
end MX
end

section
set_option Elab.async false
set_option linter.all false
set_option maxRecDepth 100000
set_option maxHeartbeats 4000000
namespace MX
open PySem PySem.Spec PyProof.Rows L2
/-! ### sorted_rows -/
def everyOf (t : Nat) : List Nat := inOrder (List.range (1 <<< t))
/-- m may come behind the row r -/
def mayB (r : List Nat) (m : Nat) : Bool := r.isEmpty || !decide (tabletOf m < tabletOf (r.getLastD 0))
def moreRows (t : Nat) (r : List Nat) : List (List Nat) := ((everyOf t).filter (mayB r)).map fun m => r ++ [m]
def sortedRows (t n : Nat) : List (List Nat) := iter (fun f => f.flatMap (moreRows t)) n [[]]
theorem every_len (t : Nat) : (everyOf t).length = 1 <<< t := by unfold everyOf; rw [(inOrder_perm _).length_eq, List.length_range]
theorem more_len (t : Nat) (r : List Nat) : (moreRows t r).length ≤ 1 <<< t := by
  unfold moreRows
  rw [List.length_map, ← every_len t]
  exact List.length_filter_le _ _
theorem flat_len {α β : Type} (g : α → List β) (c : Nat) : ∀ xs : List α, (∀ x ∈ xs, (g x).length ≤ c) → (xs.flatMap g).length ≤ xs.length * c
  | [], _ => by simp
  | x :: xs, h => by
    rw [List.flatMap_cons, List.length_append, List.length_cons, Nat.succ_mul]
    have h1 := h x (by simp)
    have h2 := flat_len g c xs fun y hy => h y (by simp [hy])
    omega
theorem srows_len (t : Nat) : ∀ n, (sortedRows t n).length ≤ (1 <<< t) ^ n
  | 0 => by simp [sortedRows, iter]
  | n + 1 => by
    have ih := srows_len t n
    show ((sortedRows t n).flatMap (moreRows t)).length ≤ _
    refine Nat.le_trans (flat_len _ _ _ fun x _ => more_len t x) ?_
    rw [Nat.pow_succ]
    exact Nat.mul_le_mul_right _ ih
theorem srows_mem (t : Nat) : ∀ n, ∀ r ∈ sortedRows t n, r.length = n
  | 0 => by simp [sortedRows, iter]
  | n + 1 => by
    intro r hr
    change r ∈ (sortedRows t n).flatMap (moreRows t) at hr
    obtain ⟨q, hq, h⟩ := List.mem_flatMap.mp hr
    unfold moreRows at h
    obtain ⟨m, _, rfl⟩ := List.mem_map.mp h
    rw [List.length_append, srows_mem t n q hq]
    rfl
section
variable {P : Program} {w : World} {K : PySem.W.Frag} {mg : Str → Option Value} {base : Heap} {f c : Addr} {fd : FuncData}
abbrev st_sorted_rows : Stmt := topS 24
abbrev N_sorted_rows : List Str := ["texts", "tablets", "every", "found", "_", "row", "mask"]
theorem sc_sorted_rows : FnScope N_sorted_rows ["texts", "tablets"] (defScope st_sorted_rows) := ⟨rfl, rfl, rfl, by decide +kernel, rfl, by decide +kernel, by decide +kernel⟩
def sp_sorted_rows : Sp := spQ 2 (fun vs H (x : Nat × Nat) => vs = [nV x.1, nV x.2] ∧ x.1 ≤ 3 ∧ x.2 ≤ 4) fun x H0 v H => ∃ a vs, v = .ref a ∧ H0 a = none ∧ H a = some (.lst vs) ∧ ITs H vs (sortedRows x.1 x.2)
theorem cal_sorted_rows (F : FunC K mg "sorted_rows" st_sorted_rows f fd c) (B : Bi mg) (C_tablet_of : Cal P w K mg base 1 "tablet_of" ["mask"] sp_tablet_of) : Cal P w K mg base 4 "sorted_rows" ["texts", "tablets"] sp_sorted_rows := by
  obtain ⟨f_tablet_of, fdT, F_tablet_of, g_tablet_of, _, b_tablet_of⟩ := C_tablet_of.ex
  refine F.cal sc_sorted_rows spQ_len (fun _ _ _ _ _ _ us hl => match us, hl with | [_, _], _ => rfl) (fun A outer s H vs Q hr h => ?_) spQ_E
  refine ⟨_, (pss_cons (ps_set (i := 2) sc_sorted_rows.nd rfl (Or.inr rfl) (pe_callBK (cr_sortKK K (F := F_tablet_of) (hr := hr.mono (by decide)) (hb := b_tablet_of) (hc := (cl_rng rfl)) (hu := un_of hr (by decide))) (by rfl) B.sorted boot_sorted (pa_cons (pe_callTy cr_range1 (by rfl) B.range (by decide +kernel) (pa_cons (pe_op op_shlNN pe_int (pv 0)) pa_nil)) pa_nil) (pk_cons (pe_glob (v := .ref f_tablet_of) (by rfl) g_tablet_of rfl) pk_nil)))
  (pss_cons (ps_set (i := 3) sc_sorted_rows.nd rfl (Or.inl rfl) (pe_lst (pa_cons (pe_tup pa_nil) pa_nil)))
  (pss_cons (ps_for PassesOwn.never rfl (pi_range1 (by rfl) B.range (pa_cons (pv 1) pa_nil)) (pg_name (i := 4) sc_sorted_rows.nd rfl (by first | exact Or.inl rfl | exact Or.inr rfl)) (pss_one (ps_setLc2 (own := [("row", 5), ("mask", 6)]) (vs1 := [6]) (i := 3) rfl sc_sorted_rows.nd rfl rfl (sw_true rfl rfl rfl (by decide +kernel)) (pi_listK K (hl := (pv 3))) (blkOk_by (own := [("row", 5), ("mask", 6)]) (N := N_sorted_rows) (sc := defScope st_sorted_rows) (by decide +kernel)) (by decide) (fun _ _ _ _ _ => (pg_name (i := 5) sc_sorted_rows.nd rfl (by first | exact Or.inl rfl | exact Or.inr rfl))) (fun _ _ _ _ _ => pts_nil) (fun _ _ _ _ _ => (pi_listK K (hl := (pv 2)))) (fun _ _ _ _ _ => (pg_name (i := 6) sc_sorted_rows.nd rfl (by first | exact Or.inl rfl | exact Or.inr rfl))) (fun _ _ _ _ _ => (pts_one (PW.pt (pw_or (pt_not (pt_tru K (pv 5))) (pw_or1 (pt_cmpR (op_leDK K (hu := un_of hr (by decide))) (pe_cal C_tablet_of hr (by decide) (by rfl) (pa_cons (pe_ix (ix_tupK K) (pv 5) (pe_un un_neg pe_int) (fun _ _ => rfl)) pa_nil)) (pe_cal C_tablet_of hr (by decide) (by rfl) (pa_cons (pv 6) pa_nil)) (nomark _))))))) (fun _ _ _ _ _ => (pe_op (op_catAK K) (pv 5) (pe_tup (pa_cons (pv 6) pa_nil)))))))
  (pss_one (ps_ret (pv 3)))))), ?_⟩
  obtain ⟨_, ⟨t, n⟩, ⟨rfl, ht, hn⟩, k⟩ := h
  dsimp only at ht hn
  have pt : 1 <<< t ≤ 8 := by
    rw [Nat.shiftLeft_eq, Nat.one_mul]
    exact Nat.le_trans (Nat.pow_le_pow_right (by decide) ht) (by decide)
  refine ⟨_, rfl, t, rfl, rfl, by omega, _, rfl, fun p hp => ?_⟩
  refine ⟨_, rfl, rfl, p, 0, _, rfl, upd_same, RgOk.of_le (by omega) (Int.ofNat_le.mpr (Nat.le_trans pt (by decide))) (by omega) (Int.natCast_nonneg _), ?_⟩
  rw [rgV_nat]
  refine ⟨(List.range (1 <<< t)).map fun n => tD (tabletOf n), by rw [List.length_map, List.length_map], srt_tab _, ?_, ?_⟩
  · intro i y d H' Q' hy hd kp q
    obtain ⟨n, hn, rfl⟩ := map_at hy
    rw [List.getElem?_map, hn] at hd
    cases hd
    exact ⟨rfl, n, rfl, fun v H2 k2 it => q v H2 k2 it.dp⟩
  intro e H1 he0 k1 he1
  rw [sort_order (vals_nv _)]
  show gName 2 _ _ _ _
  have kp1 : Kp H (upd H1 e (.lst ((everyOf t).map nV))) := (Kp.new (o := .rng 0 ((1 <<< t : Nat) : Int)) hp).trans (k1.put he0)
  have ee : upd H1 e (.lst ((everyOf t).map nV)) e = some (.lst ((everyOf t).map nV)) := upd_same
  change Kp H (upd H1 e (.lst ((inOrder (List.range (1 <<< t))).map nV))) at kp1
  generalize hHE : upd H1 e (.lst ((inOrder (List.range (1 <<< t))).map nV)) = HE at *
  have ee : HE e = some (.lst ((everyOf t).map nV)) := by rw [← hHE]; exact upd_same
  refine ⟨Nat.zero_le _, fun p0 hp0 => ⟨by show 1 ≤ sizeLine; decide, fun d0 hd0 => ?_⟩⟩
  have kp2 := (Kp.new (o := .tup []) hp0).trans (Kp.new (o := .lst [.ref p0]) hd0)
  refine ⟨_, rfl, (n : Int), rfl, by omega, by omega, ?_⟩
  rw [Int.toNat_natCast]
  refine for_range (lo := 0) (n := n) (fun i σ H' => Kp HE H' ∧ ∃ d o4 o5 o6 vs, σ = [some (nV t), some (nV n), some (.ref e), some (.ref d), o4, o5, o6] ∧ HE d = none ∧ H' d = some (.lst vs) ∧ ITs H' vs (sortedRows t i)) ⟨kp2, d0, _, _, _, _, rfl, (Kp.new hp0).free hd0, upd_same, .cons ⟨p0, rfl, by rw [upd_ne (ne_of_none upd_same hd0)]; exact upd_same⟩ .nil⟩ ?_ ?_
  · rintro i σ H' hi ⟨kp, d, o4, o5, o6, vs, rfl, hd0', hd, its⟩
    have L1 := srows_len t i
    have L2 : (sortedRows t i).length ≤ 4096 := Nat.le_trans L1 (Nat.le_trans (Nat.pow_le_pow_left pt i) (Nat.le_trans (Nat.pow_le_pow_right (by decide) (show i ≤ 4 by omega)) (by decide)))
    have lens := srows_mem t i
    generalize hR : sortedRows t i = R at *
    refine ⟨_, rfl, d, rfl, ⟨_, SqL.of hd⟩, fun D hD => ?_⟩
    refine turns_list (xs := vs) (fun a H2 => AccI H' D IT ((R.take a).flatMap (moreRows t)) H2) (AccI.zero hD) (fun a H2 I => SqL.of (I.1.lst hd)) ?_ ?_
    · intro a y H2 hy I
      obtain ⟨r, hr, it⟩ := Paired.at' its hy
      obtain ⟨b, rfl, eb⟩ := it
      have lr := lens r (List.mem_of_getElem? hr)
      refine ⟨rfl, yes2 ⟨_, rfl, e, rfl, ⟨_, SqL.of (I.1.lst (kp.lst ee))⟩, ?_⟩⟩
      have bound : ((R.take a).flatMap (moreRows t)).length ≤ 4096 * 8 := by
        refine Nat.le_trans (flat_len _ 8 _ fun x _ => Nat.le_trans (more_len t x) pt) ?_
        rw [List.length_take]
        exact Nat.mul_le_mul_right _ (by omega)
      refine turns_list (xs := (everyOf t).map nV) (fun j H3 => AccI H' D IT ((R.take a).flatMap (moreRows t) ++ (((everyOf t).take j).filter (mayB r)).map fun m => r ++ [m]) H3) (by rw [List.take_zero, List.filter_nil, List.map_nil, List.append_nil]; exact I) (fun j H3 I => SqL.of (I.1.lst (kp.lst ee))) ?_ ?_
      · intro j y H3 hy I3
        obtain ⟨m, hm, rfl⟩ := map_at hy
        have eb3 := I3.1.tup eb
        have tm : (everyOf t).take (j + 1) = (everyOf t).take j ++ [m] := take_more hm
        have len2 : ((R.take a).flatMap (moreRows t) ++ (((everyOf t).take j).filter (mayB r)).map fun m => r ++ [m]).length < sizeLine := by
          refine sl ?_
          rw [List.length_append, List.length_map]
          have h1 := List.length_filter_le (mayB r) ((everyOf t).take j)
          have h2 : ((everyOf t).take j).length ≤ (everyOf t).length := by rw [List.length_take]; omega
          have h3 := every_len t
          omega
        have yes : ∀ H4, Kp H3 H4 → mayB r m = true → tOp (rCatA K) (tVar 5) (tTup (tCons (tVar 6) tNil)) [some (nV t), some (nV n), some (.ref e), some (.ref d), some (.int (0 + (i : Int))), some (.ref b), some (nV m)] H4 fun y H7 => ∃ acc, H7 D = some (.lst acc) ∧ acc.length < sizeLine ∧ AccI H' D IT ((R.take a).flatMap (moreRows t) ++ (((everyOf t).take (j + 1)).filter (mayB r)).map fun m => r ++ [m]) (upd H7 D (.lst (acc ++ [y]))) := by
          intro H4 k4 hb
          refine ⟨_, rfl, _, rfl, by show 1 ≤ sizeLine; decide, fun q hq => ?_⟩
          refine cat_one ⟨b, rfl, k4.tup eb3⟩ (by omega) hq fun u H5 k5 iu => ?_
          exact I3.push stab_it hD (k4.trans k5) iu len2 (by rw [tm, fil_yes hb, List.map_append, List.append_assoc]; rfl)
        have no : ∀ H4, Kp H3 H4 → mayB r m = false → AccI H' D IT ((R.take a).flatMap (moreRows t) ++ (((everyOf t).take (j + 1)).filter (mayB r)).map fun m => r ++ [m]) H4 := by
          intro H4 k4 hb
          exact I3.keep stab_it k4 (by rw [tm, fil_no hb])
        refine ⟨rfl, _, rfl, !(r.map nV).isEmpty, .inr (.inl ⟨_, SqT.of eb3, rfl⟩), ?_⟩
        cases r with
        | nil => exact ifT rfl (ifT rfl (yes H3 (Kp.refl _) rfl))
        | cons r0 rs =>
          obtain ⟨init, lastm, hinit⟩ : ∃ init lastm, r0 :: rs = init ++ [lastm] := ⟨_, _, (List.dropLast_concat_getLast (l := r0 :: rs) (by simp)).symm⟩
          have hlast : (r0 :: rs).getLastD 0 = lastm := by rw [hinit]; simp
          refine ifF rfl ?_
          refine ⟨_, rfl, 1, rfl, b, _, -1, nV lastm, rfl, rfl, SqT.of eb3, by rw [hinit, List.map_append]; exact atI_last _ _, ?_⟩
          refine ⟨rfl, lastm, rfl, ?_⟩
          intro v1 H4 k4 i1
          refine ⟨_, rfl, rfl, m, rfl, ?_⟩
          intro v2 H5 k5 i2
          refine ⟨tD (tabletOf lastm), tD (tabletOf m), (i1.kp k5).dp, i2.dp, alike_t _ _, (by intro z; cases z), (by rw [depth_t]; decide), _, rfl, ?_⟩
          rw [tD_lt]
          have e3 : (!decide (tabletOf m < tabletOf lastm)) = mayB (r0 :: rs) m := by unfold mayB; rw [hlast]; rfl
          rw [e3]
          exact ite_b (fun hb => yes H5 (k4.trans k5) hb) fun hb => no H5 (k4.trans k5) hb
      · intro H3 I3
        rw [List.length_map, List.take_length] at I3
        rw [take_more hr, List.flatMap_append]
        simpa [moreRows] using I3
    · intro H2 I
      rw [its.length, List.take_length] at I
      obtain ⟨kp3, acc, hacc, p⟩ := I
      refine ⟨kp.trans kp3, D, _, _, _, acc, rfl, kp.free hD, hacc, ?_⟩
      have : sortedRows t (i + 1) = R.flatMap (moreRows t) := by rw [← hR]; rfl
      rw [this]
      exact p
  · rintro σ H' ⟨kp, d, o4, o5, o6, vs, rfl, hd0', hd, its⟩
    exact ⟨_, rfl, k _ _ (kp1.trans kp) ⟨d, vs, rfl, kp1.free hd0', hd, its⟩⟩
end
end MX
end

section
set_option Elab.async false
set_option linter.all false
set_option maxRecDepth 100000
set_option maxHeartbeats 4000000
namespace MX
open PySem PySem.Spec PyProof.Rows L2
/-! ### a heap without the thing at D -/
def off (D : Addr) (H : Hp) : Hp := fun b => if b = D then none else H b
theorem off_ne {D b : Addr} {H : Hp} (h : b ≠ D) : off D H b = H b := if_neg h
theorem off_same {D : Addr} {H : Hp} : off D H D = none := if_pos rfl
theorem off_upd {D : Addr} {H : Hp} {o : HO} : off D (upd H D o) = off D H := by
  funext b
  unfold off
  split
  · rfl
  · rename_i h
    exact upd_ne h
theorem off_le {D b : Addr} {H : Hp} {o : HO} (h : off D H b = some o) : H b = some o ∧ b ≠ D := by
  unfold off at h
  split at h
  · cases h
  · exact ⟨h, ‹_›⟩
theorem off_kp {D : Addr} {H H' : Hp} (k : Kp H H') : Kp (off D H) (off D H') := by
  constructor
  · intro b o e n
    obtain ⟨e1, ne⟩ := off_le e
    rw [off_ne ne]
    exact k.1 b o e1 n
  · intro b ps e
    obtain ⟨e1, ne⟩ := off_le e
    obtain ⟨q, h⟩ := k.2 b ps e1
    exact ⟨q, by rw [off_ne ne]; exact h⟩
theorem kp_off {D : Addr} (H : Hp) : Kp (off D H) H := by
  constructor
  · intro b o e n
    exact (off_le e).1
  · intro b ps e
    refine ⟨#[], ?_⟩
    have := (off_le e).1
    obtain ⟨q, h⟩ := (Kp.refl H).2 b ps this
    obtain ⟨q', h'⟩ := (Kp.refl H).2 b ps this
    rw [this]
    simp
/-- all but D is kept -/
theorem Kp.offD {D : Addr} {H H' : Hp} {o : HO} (k : Kp (off D H) H') (h : ∀ b, D ≠ b → True := by intros; trivial) : Kp (off D H) (upd H' D o) := k.put off_same
/-! ### what a place answers: none, or a list of what is reached -/
def AnsV (H : Hp) (v : V) : Option (List (List Nat)) → Prop
  | none => v = .non
  | some l => LT H v l
def AnsL (H : Hp) (v : V) (os : List (Option (List (List Nat)))) : Prop := ∃ a vs, v = .ref a ∧ H a = some (.lst vs) ∧ Paired (AnsV H) vs os
theorem AnsV.kp {H H' : Hp} {v : V} {o : Option (List (List Nat))} (h : AnsV H v o) (k : Kp H H') : AnsV H' v o := by
  cases o with
  | none => exact h
  | some l => exact LT.kp h k
theorem AnsL.kp {H H' : Hp} {v : V} {os : List (Option (List (List Nat)))} (h : AnsL H v os) (k : Kp H H') : AnsL H' v os := by
  obtain ⟨a, vs, e, q, p⟩ := h
  exact ⟨a, vs, e, k.lst q, Paired.mono (fun _ _ q => q.kp k) p⟩
def ansOf (t most melts : Nat) (ms : List Nat) : List (Option (List (List Nat))) := (chosen ms melts).map fun left => if hasAll t left then some (filled left melts most) else none
theorem kst_ans : ∀ H H' v b, Kp H H' → AnsV H v b → AnsV H' v b := fun _ _ _ _ k h => h.kp k
/-- a list at D that grows; its items do not lean on it -/
def AccO {β : Type} (H0 : Hp) (D : Addr) (F : Hp → V → β → Prop) (m : List β) (H : Hp) : Prop := Kp H0 H ∧ H0 D = none ∧ ∃ acc, H D = some (.lst acc) ∧ Paired (F (off D H)) acc m
section
variable {β : Type} {H0 H H2 : Hp} {D : Addr} {F : Hp → V → β → Prop} {m m' : List β} {v : V} {b : β}
theorem AccO.push (S : ∀ H H' v b, Kp H H' → F H v b → F H' v b) (I : AccO H0 D F m H) (k : Kp H H2) (f : F (off D H2) v b) (hz : m.length < sizeLine) (e : m' = m ++ [b]) : ∃ acc, H2 D = some (.lst acc) ∧ acc.length < sizeLine ∧ AccO H0 D F m' (upd H2 D (.lst (acc ++ [v]))) := by
  obtain ⟨k1, h0, acc, ha, p⟩ := I
  refine ⟨acc, k.lst ha, by rw [p.length]; exact hz, (k1.trans k).put h0, h0, acc ++ [v], upd_same, ?_⟩
  rw [off_upd, e]
  exact (Paired.mono (fun _ _ q => S _ _ _ _ (off_kp k) q) p).snoc f
theorem AccO.kp (S : ∀ H H' v b, Kp H H' → F H v b → F H' v b) (I : AccO H0 D F m H) (k : Kp H H2) : AccO H0 D F m H2 := by
  obtain ⟨k1, h0, acc, ha, p⟩ := I
  exact ⟨k1.trans k, h0, acc, k.lst ha, Paired.mono (fun _ _ q => S _ _ _ _ (off_kp k) q) p⟩
end
theorem it_off {H : Hp} {D : Addr} {v : V} {ms : List Nat} (h : IT H v ms) (n : ∀ xs, H D ≠ some (.tup xs)) : IT (off D H) v ms := by
  obtain ⟨a, rfl, e⟩ := h
  refine ⟨a, rfl, ?_⟩
  rw [off_ne]
  · exact e
  · rintro rfl
    exact n _ e
theorem its_off {H : Hp} {D : Addr} {vs : List V} {l : List (List Nat)} (h : ITs H vs l) (n : ∀ xs, H D ≠ some (.tup xs)) : ITs (off D H) vs l := Paired.mono (fun _ _ q => it_off q n) h
theorem lt_off {H : Hp} {D a : Addr} {vs : List V} {l : List (List Nat)} (e : H a = some (.lst vs)) (h : ITs H vs l) (ne : a ≠ D) (n : ∀ xs, H D ≠ some (.tup xs)) : LT (off D H) (.ref a) l := ⟨a, vs, rfl, by rw [off_ne ne]; exact e, its_off h n⟩
/-- of the heap H what is new behind H0, and the tuples -/
def nu (H0 H : Hp) : Hp := fun b => match H0 b with
  | none => H b
  | some (.tup _) => H b
  | some _ => none
theorem nu_new {H0 H : Hp} {b : Addr} (h : H0 b = none) : nu H0 H b = H b := by unfold nu; rw [h]
theorem nu_tup {H0 H : Hp} {b : Addr} {xs : List V} (h : H0 b = some (.tup xs)) : nu H0 H b = H b := by unfold nu; rw [h]
theorem nu_le {H0 H : Hp} {b : Addr} {o : HO} (h : nu H0 H b = some o) : H b = some o ∧ (H0 b = none ∨ ∃ xs, H0 b = some (.tup xs)) := by
  unfold nu at h
  split at h
  · exact ⟨h, .inl ‹_›⟩
  · exact ⟨h, .inr ⟨_, ‹_›⟩⟩
  · cases h
theorem nu_kp {H0 H H' : Hp} (k : Kp H H') : Kp (nu H0 H) (nu H0 H') := by
  have put : ∀ {b : Addr}, (H0 b = none ∨ ∃ xs, H0 b = some (.tup xs)) → nu H0 H' b = H' b := fun h => by
    rcases h with h | ⟨xs, h⟩
    · exact nu_new h
    · exact nu_tup h
  constructor
  · intro b o e n
    obtain ⟨e1, h⟩ := nu_le e
    rw [put h]
    exact k.1 b o e1 n
  · intro b ps e
    obtain ⟨e1, h⟩ := nu_le e
    obtain ⟨m, q⟩ := k.2 b ps e1
    exact ⟨m, by rw [put h]; exact q⟩
theorem it_nu {H0 H : Hp} {v : V} {ms : List Nat} (k : Kp H0 H) (h : IT H v ms) : IT (nu H0 H) v ms := by
  obtain ⟨a, rfl, e⟩ := h
  refine ⟨a, rfl, ?_⟩
  cases h0 : H0 a with
  | none => rw [nu_new h0]; exact e
  | some o =>
    by_cases z : ∃ ps, o = .tbl ps
    · obtain ⟨ps, rfl⟩ := z
      obtain ⟨m, q, _⟩ := k.2 a ps h0
      rw [e] at q
      cases q
    · have q := k.1 a o h0 fun ps y => z ⟨ps, y⟩
      rw [e] at q
      cases q
      rw [nu_tup h0]
      exact e
theorem nu_to {H0 H G : Hp} (h : ∀ b o, H b = some o → (H0 b = none ∨ ∃ xs, H0 b = some (.tup xs)) → G b = some o) : Kp (nu H0 H) G := by
  constructor
  · intro b o e _
    obtain ⟨e1, q⟩ := nu_le e
    exact h b o e1 q
  · intro b ps e
    obtain ⟨e1, q⟩ := nu_le e
    exact ⟨#[], by rw [h b _ e1 q]; simp, fun t => by simpa using t⟩
theorem kst_nu (H0 : Hp) : ∀ H H' v b, Kp H H' → AnsV (nu H0 H) v b → AnsV (nu H0 H') v b := fun _ _ _ _ k h => h.kp (nu_kp k)
theorem sort_mem {l : List (List Nat)} {x : List Nat} : x ∈ sortL l ↔ x ∈ l := by unfold sortL; exact List.mem_mergeSort
theorem chosen_sub {n : Nat} {f : List (List Nat)} (h : ∀ x ∈ f, ∀ m ∈ x, m < n) : ∀ i, ∀ x ∈ iter chosenStep i f, ∀ m ∈ x, m < n
  | 0 => h
  | i + 1 => by
    intro x hx
    unfold iter chosenStep at hx
    rw [fold_mem] at hx
    rcases hx with hx | ⟨y, hy, hx⟩
    · cases hx
    · unfold cuts at hx
      obtain ⟨k, _, rfl⟩ := List.mem_map.mp hx
      intro m hm
      rcases List.mem_append.mp hm with h1 | h1
      · exact chosen_sub h i y hy m (List.mem_of_mem_take h1)
      · exact chosen_sub h i y hy m (List.mem_of_mem_drop h1)
theorem chosen_ok {x : List Nat} (h3 : x.length ≤ 6) (h4 : ∀ m ∈ x, m < 8) (melts : Nat) : ∀ y ∈ chosen x melts, y.length ≤ 6 ∧ ∀ m ∈ y, m < 8 := by
  intro y hy
  unfold chosen at hy
  rw [sort_mem] at hy
  exact ⟨chosen_mem (n := 6) (f := [x]) melts (by simpa using h3) y hy, chosen_sub (n := 8) (f := [x]) (by simpa using h4) melts y hy⟩
theorem chosen_small {x : List Nat} (h3 : x.length ≤ 6) {melts : Nat} (h2 : melts ≤ 3) : (chosen x melts).length ≤ 216 := by
  unfold chosen sortL
  rw [List.length_mergeSort]
  refine Nat.le_trans (chosen_len (n := 6) (f := [x]) (by simpa using h3) melts) ?_
  rw [List.length_cons, List.length_nil, Nat.zero_add, Nat.one_mul]
  exact Nat.le_trans (Nat.pow_le_pow_right (by decide) h2) (by decide)
/-! ### a class of the text -/
/-- a method of the text: its code object stands at c -/
structure MthC (K : PySem.W.Frag) (C : Addr) (m q : Str) (st : Stmt) (f : Addr) (fd : FuncData) (c : Addr) : Prop where
  ex : ∃ (oc : Value) (od : Option Addr) (kV doc pm : Value) (an : Option Addr) (ct : Value) (osl : Array (Option Value)),
    fd = PySem.W.fnOf m q (defArgs st) (defBody st) (defScope st) .none kV doc pm an (.ref c) ct ∧ K.lookup f = some ⟨oc, od, .func fd, osl⟩ ∧ PySem.W.codeIn K (.ref c) q = true
  me : Meth K C m f
  cl : Cls K C
structure MCal (P : Program) (w : World) (K : PySem.W.Frag) (mg : Str → Option Value) (base : Heap) (C : Addr) (k : Nat) (m : Str) (ps : List Str) (sp : Sp) : Prop where
  ex : ∃ (f : Addr) (fd : FuncData), FnOk P w K mg base CX0 k f fd ps sp ∧ Meth K C m f ∧ Binds K fd ps []
  cl : Cls K C
/-- a class that is made by its name -/
structure KCal (P : Program) (w : World) (K : PySem.W.Frag) (mg : Str → Option Value) (base : Heap) (C : Addr) (k : Nat) (x : Str) (ps : List Str) (sp : Sp) : Prop where
  ex : ∃ (f : Addr) (fd : FuncData), FnOk P w K mg base CX0 k f fd ps sp ∧ Mk K C f ∧ Binds K fd ps []
  gl : mg x = some (.ref C)
section
variable {X : Cx} {C : Addr} {k j : Nat} {m x : Str} {ps : List Str} {sp : Sp} {p pos apos : Pos} {e o : Expr} {es : List Expr} {ta : TE} {t : TA}
theorem pe_mcal {pl : Sem Bool} (c : MCal X.prog X.w X.K X.mg X.base C k m ps sp) (hr : Room j X.A) (hk : k ≤ j) (he : PE X o ta) (ha : PA X (e :: es) t)
    (hst : starEach (e :: es) X.env = (false, eval e X.env) :: starEach es X.env := by rfl) (hpl : (backTo pos (starEach es X.env)).any (·.1) = false := by rfl)
    (ht : eval (.Call (.Attribute o m apos) (e :: es) [] pos) X.env = (do
      let ov ← eval o X.env
      standAt apos.atName
      let (f, first) ← holding [ov] (getMethod ov m pl)
      callWith pos f first (backTo pos (starEach (e :: es) X.env)) (backToKw pos (keywordEach [] X.env))) := by rfl) :
    PE X (.Call (.Attribute o m apos) (e :: es) [] pos) (tMeth C m sp [] E0 ta t) := by
  obtain ⟨f, fd, F, hm, b⟩ := c.ex
  exact pe_meth he c.cl hm F (hr.mono hk) b .nil pass0 ha hst hpl ht
theorem pe_mcal0 {pl : Sem Bool} (c : MCal X.prog X.w X.K X.mg X.base C k m ps sp) (hr : Room j X.A) (hk : k ≤ j) (he : PE X o ta)
    (ht : eval (.Call (.Attribute o m apos) [] [] pos) X.env = (do
      let ov ← eval o X.env
      standAt apos.atName
      let (f, first) ← holding [ov] (getMethod ov m pl)
      callWith pos f first (backTo pos (starEach [] X.env)) (backToKw pos (keywordEach [] X.env))) := by rfl) :
    PE X (.Call (.Attribute o m apos) [] [] pos) (tMeth C m sp [] E0 ta tNil) := by
  obtain ⟨f, fd, F, hm, b⟩ := c.ex
  exact pe_meth0 he c.cl hm F (hr.mono hk) b .nil pass0 ht
theorem pe_mk (c : KCal X.prog X.w X.K X.mg X.base C k x ps sp) (hr : Room j X.A) (hk : k + 1 ≤ j) (hg : Gl X x) (ha : PA X (e :: es) t)
    (hdb : (x == ("__debug__" : Str)) = false := by decide) (he : starEach (e :: es) X.env = (false, eval e X.env) :: starEach es X.env := by rfl) (hpl : (backTo pos (starEach es X.env)).any (·.1) = false := by rfl) :
    PE X (.Call (.Name x p) (e :: es) [] pos) (tMake C sp [] E0 t) := by
  obtain ⟨f, fd, F, hm, b⟩ := c.ex
  exact pe_make hm F (hr.mono hk) hg c.gl b .nil pass0 ha hdb he hpl
end
section
variable {P : Program} {w : World} {K : PySem.W.Frag} {mg : Str → Option Value} {base : Heap}
theorem MthC.fn {C : Addr} {m q : Str} {st : Stmt} {f c : Addr} {fd : FuncData} {N ps : List Str} {k : Nat} {sp : Sp} (F : MthC K C m q st f fd c) (S : FnScope N ps (defScope st)) (len : ∀ vs H Q E, sp vs H Q E → vs.length = ps.length)
    (hb : ∀ (kV doc pm : Value) (an : Option Addr) (cdv ct : Value) (us : List Value), us.length = ps.length → bindArgs (PySem.W.fnOf m q (defArgs st) (defBody st) (defScope st) .none kV doc pm an cdv ct) ⟨us, []⟩ = pure (ps.zip us))
    (hbody : ∀ (A : Around) (outer : List Env) (s : Shared) (H : Hp) (vs : List V) (Q : VK), Room k (A.deeper (envOfC q (defScope st) s.heap.objs.size f (.ref c))) → sp vs H Q E0 →
      ∃ t, PSs (cxOf CX0 P w K mg base N q (defScope st) f (.ref c) A outer s H E0).nox (defBody st) t ∧ t { nx := fun _ H' => Q .non H', rt := Q } (start N vs) H) (hE : ∀ vs H Q E, sp vs H Q E → sp vs H Q E0) :
    FnOk P w K mg base CX0 (k + 1) f fd ps sp ∧ Binds K fd ps [] := by
  obtain ⟨oc, od, kV, doc, pm, an, ct, osl, rfl, lk, hcd⟩ := F.ex
  refine ⟨fn_of lk hcd S len fun A outer s H vs Q E hr hsp => ?_, .all (hb kV doc pm an (.ref c) ct)⟩
  obtain ⟨t, h, q⟩ := hbody A outer s H vs Q hr (hE _ _ _ _ hsp)
  exact ⟨t, h.nox, q⟩
theorem MthC.cal {C : Addr} {m q : Str} {st : Stmt} {f c : Addr} {fd : FuncData} {N ps : List Str} {k : Nat} {sp : Sp} (F : MthC K C m q st f fd c) (S : FnScope N ps (defScope st)) (len : ∀ vs H Q E, sp vs H Q E → vs.length = ps.length)
    (hb : ∀ (kV doc pm : Value) (an : Option Addr) (cdv ct : Value) (us : List Value), us.length = ps.length → bindArgs (PySem.W.fnOf m q (defArgs st) (defBody st) (defScope st) .none kV doc pm an cdv ct) ⟨us, []⟩ = pure (ps.zip us))
    (hbody : ∀ (A : Around) (outer : List Env) (s : Shared) (H : Hp) (vs : List V) (Q : VK), Room k (A.deeper (envOfC q (defScope st) s.heap.objs.size f (.ref c))) → sp vs H Q E0 →
      ∃ t, PSs (cxOf CX0 P w K mg base N q (defScope st) f (.ref c) A outer s H E0).nox (defBody st) t ∧ t { nx := fun _ H' => Q .non H', rt := Q } (start N vs) H) (hE : ∀ vs H Q E, sp vs H Q E → sp vs H Q E0) :
    MCal P w K mg base C (k + 1) m ps sp := by
  obtain ⟨a, b⟩ := F.fn (mg := mg) (base := base) S len hb hbody hE
  exact ⟨⟨f, fd, a, F.me, b⟩, F.cl⟩
end
/-! ### an instance of Flood -/
def fsW (t most melts : Nat) (W : Addr) : List (Str × V) := [("texts", nV t), ("most", nV most), ("melts", nV melts), ("ways", .ref W)]
/-- nothing of the class stands in the way of its fields -/
structure FlC (K : PySem.W.Frag) (C : Addr) : Prop where
  cl : Cls K C
  texts : NoAttr K C "texts"
  most : NoAttr K C "most"
  melts : NoAttr K C "melts"
  ways : NoAttr K C "ways"
  within : NoAttr K C "within"
def FlAt (H : Hp) (C : Addr) (v : V) (fs : List (Str × V)) : Prop := ∃ a dx, v = .ref a ∧ H a = some (.ins C dx fs)
theorem FlAt.kp {H H' : Hp} {C : Addr} {v : V} {fs : List (Str × V)} (h : FlAt H C v fs) (k : Kp H H') : FlAt H' C v fs := let ⟨a, dx, e, q⟩ := h; ⟨a, dx, e, k.ins q⟩
section
variable {P : Program} {w : World} {K : PySem.W.Frag} {mg : Str → Option Value} {base : Heap} {f c C : Addr} {fd : FuncData}
abbrev st_answers : Stmt := inClass (topS 32) 1
abbrev N_answers : List Str := ["self", "masks", "found", "left"]
theorem sc_answers : FnScope N_answers ["self", "masks"] (defScope st_answers) := ⟨rfl, rfl, rfl, by decide +kernel, rfl, by decide +kernel, by decide +kernel⟩
def sp_answers (C : Addr) : Sp := spQ 2 (fun vs H (x : (Nat × Nat × Nat) × Addr × List Nat) => ∃ v u, vs = [v, u] ∧ FlAt H C v (fsW x.1.1 x.1.2.1 x.1.2.2 x.2.1) ∧ IT H u x.2.2 ∧ x.1.1 ≤ 3 ∧ x.1.2.2 ≤ 3 ∧ x.2.2.length ≤ 6 ∧ ∀ m ∈ x.2.2, m < 8)
  fun x H0 v H => ∃ a vs, v = .ref a ∧ H0 a = none ∧ H a = some (.lst vs) ∧ Paired (AnsV (nu H0 (off a H))) vs (ansOf x.1.1 x.1.2.1 x.1.2.2 x.2.2)
theorem cal_answers (FC : FlC K C) (F : MthC K C "answers" "Flood.answers" st_answers f fd c) (B : Bi mg) (C_chosen : Cal P w K mg base 1 "chosen" ["masks", "many"] sp_chosen) (C_has_all : Cal P w K mg base 2 "has_all" ["texts", "masks"] sp_has_all) (C_filled : Cal P w K mg base 5 "filled" ["left", "many", "most"] sp_filled) : MCal P w K mg base C 6 "answers" ["self", "masks"] (sp_answers C) := by
  refine F.cal sc_answers spQ_len (fun _ _ _ _ _ _ us hl => match us, hl with | [_, _], _ => rfl) (fun A outer s H vs Q hr h => ?_) spQ_E
  refine ⟨_, (pss_cons (ps_set (i := 2) sc_answers.nd rfl (Or.inl rfl) (pe_lst pa_nil))
  (pss_cons (ps_for PassesOwn.never rfl (pi_listK K (hl := (pe_cal C_chosen hr (by decide) (by rfl) (pa_cons (pv 1) (pa_cons (pe_fldK K (he := (pv 0))) pa_nil))))) (pg_name (i := 3) sc_answers.nd rfl (by first | exact Or.inl rfl | exact Or.inr rfl)) (pss_one (ps_expr (pe_bm PySem.F.plainAttrs_list PySem.F.slot_list_append PySem.F.type_list_append mt_append (pv 2) (pa_cons (pe_ifExp (pt_val (pe_cal C_has_all hr (by decide) (by rfl) (pa_cons (pe_fldK K (he := (pv 0))) (pa_cons (pv 3) pa_nil)))) (pe_cal C_filled hr (by decide) (by rfl) (pa_cons (pv 3) (pa_cons (pe_fldK K (he := (pv 0))) (pa_cons (pe_fldK K (he := (pv 0))) pa_nil)))) pe_non) pa_nil)))))
  (pss_one (ps_ret (pv 2))))), ?_⟩
  obtain ⟨_, ⟨⟨t, most, melts⟩, W, x⟩, ⟨_, u, rfl, ⟨a, dx, rfl, ea⟩, it, h1, h2, h3, h4⟩, k⟩ := h
  dsimp only at ea it h1 h2 h3 h4
  refine ⟨Nat.zero_le _, fun D hD => ?_⟩
  have kD : Kp H (upd H D (.lst [])) := Kp.new hD
  refine ⟨_, rfl, _, rfl, a, C, dx, _, nV melts, rfl, kD.ins ea, FC.cl, FC.melts, rfl, rfl, (x, melts), ⟨_, rfl, it.kp kD, h3, h2⟩, ?_⟩
  rintro _ H1 k1 ⟨r, vs, rfl, hr0, er, its⟩
  have nrD : r ≠ D := by
    rintro rfl
    rw [upd_same] at hr0
    cases hr0
  have hD1 := k1.lst (show upd H D (.lst []) D = _ from upd_same)
  have c8 := chosen_ok h3 h4 melts
  have cL := chosen_small h3 h2
  have aL : (ansOf t most melts x).length = (chosen x melts).length := by unfold ansOf; rw [List.length_map]
  refine ⟨r, rfl, ⟨_, SqL.of er⟩, for_list (K := K) (a := r) (xs := vs) (fun i σ H' => ITs H' vs (chosen x melts) ∧ H' r = some (.lst vs) ∧ (∃ o3, σ = [some (.ref a), some u, some (.ref D), o3]) ∧ AccO H D (fun G v b => AnsV (nu H G) v b) ((ansOf t most melts x).take i) H') ⟨its, er, ⟨none, rfl⟩, kD.trans k1, hD, [], hD1, .nil⟩ (fun i σ H' _ I => SqL.of I.2.1) ?_ ?_⟩
  · rintro i y σ H' hy ⟨its', er', ⟨o3, rfl⟩, acc⟩
    obtain ⟨left, hleft, itl⟩ := Paired.at' its' hy
    obtain ⟨l6, l8⟩ := c8 left (List.mem_of_getElem? hleft)
    have ta : (ansOf t most melts x).take (i + 1) = (ansOf t most melts x).take i ++ [if hasAll t left then some (filled left melts most) else none] := take_more (by unfold ansOf; rw [List.getElem?_map, hleft]; rfl)
    have ea' := acc.1.ins ea
    have key : ∀ v H2, Kp H' H2 → AnsV (nu H (off D H2)) v (if hasAll t left then some (filled left melts most) else none) → ∃ l xs y0, V.ref D = .ref l ∧ [v] = [y0] ∧ H2 l = some (.lst xs) ∧ xs.length < sizeLine ∧ (ITs (upd H2 l (.lst (xs ++ [y0]))) vs (chosen x melts) ∧ upd H2 l (.lst (xs ++ [y0])) r = some (.lst vs) ∧ (∃ o3, [some (V.ref a), some u, some (.ref D), some y] = [some (.ref a), some u, some (.ref D), o3]) ∧ AccO H D (fun G v b => AnsV (nu H G) v b) ((ansOf t most melts x).take (i + 1)) (upd H2 l (.lst (xs ++ [y0])))) := by
      intro v H2 k2 f
      obtain ⟨xs, hx, hz, I⟩ := acc.push (kst_nu H) k2 f (sl (by rw [List.length_take]; omega)) ta
      exact ⟨D, xs, v, rfl, rfl, hx, hz, (its'.tk k2.tk).tk (Tk.lst hx), by rw [upd_ne nrD]; exact k2.lst er', ⟨_, rfl⟩, I⟩
    refine ⟨_, rfl, .inl ⟨rfl, _, SqL.of acc.2.2.choose_spec.1⟩, ?_⟩
    refine ⟨_, rfl, a, C, dx, _, nV t, rfl, ea', FC.cl, FC.texts, rfl, y, rfl, rfl, (t, left), ⟨y, rfl, itl, Nat.le_trans l6 (by decide), Nat.le_trans h1 (by decide)⟩, ?_⟩
    rintro _ H3 k3 rfl
    refine ⟨_, rfl, ite_b (fun hb => ?_) (fun hb => ?_)⟩
    · refine ⟨_, rfl, _, rfl, a, C, dx, _, nV melts, rfl, k3.ins ea', FC.cl, FC.melts, rfl, _, rfl, a, C, dx, _, nV most, rfl, k3.ins ea', FC.cl, FC.most, rfl, rfl, (left, melts, most), ⟨y, rfl, itl.kp k3, l6, h2, l8⟩, ?_⟩
      rintro _ H4 k4 ⟨q, ws, rfl, hq0, hq, itq⟩
      have hD4 := k4.lst (k3.lst acc.2.2.choose_spec.1)
      refine key _ _ (k3.trans k4) ?_
      rw [if_pos hb]
      have nqD : q ≠ D := by
        rintro rfl
        rw [k3.lst acc.2.2.choose_spec.1] at hq0
        cases hq0
      have kp4 := (acc.1.trans k3).trans k4
      refine ⟨q, ws, rfl, ?_, ?_⟩
      · rw [nu_new ((acc.1.trans k3).free hq0), off_ne nqD]
        exact hq
      · refine Paired.mono (fun v b i => ?_) itq
        obtain ⟨x, e, e2⟩ := it_nu kp4 i
        obtain ⟨e3, n3⟩ := nu_le e2
        refine ⟨x, e, ?_⟩
        have nx : x ≠ D := by
          rintro rfl
          rw [hD4] at e3
          cases e3
        rcases n3 with n3 | ⟨xs, n3⟩
        · rw [nu_new n3, off_ne nx]
          exact e3
        · rw [nu_tup n3, off_ne nx]
          exact e3
    · refine key _ _ k3 ?_
      rw [if_neg (by rw [hb]; decide)]
      rfl
  · rintro σ H' ⟨its', er', ⟨o3, rfl⟩, kp, h0, acc, hacc, pr⟩
    rw [its.length] at pr
    refine ⟨_, rfl, k _ _ kp ⟨D, acc, rfl, hD, hacc, ?_⟩⟩
    rw [List.take_of_length_le (show _ ≤ (chosen x melts).length from Nat.le_of_eq aL)] at pr
    exact pr
end
end MX
end

section
set_option Elab.async false
set_option linter.all false
set_option maxRecDepth 100000
set_option maxHeartbeats 4000000
namespace MX
open PySem PySem.Spec PyProof.Rows L2
theorem lay_all {α : Type} (g : α → PyData) (h : ∀ x, (g x).canLay0 = true) : ∀ l : List α, PyData.canLayAll0 (l.map g) = true
  | [] => rfl
  | x :: l => by
    rw [List.map_cons]
    unfold PyData.canLayAll0
    rw [h x, lay_all g h l]
    rfl
theorem dep_all {α : Type} (g : α → PyData) (n : Nat) (h : ∀ x, (g x).depth ≤ n) : ∀ l : List α, PyData.depthAll (l.map g) ≤ n
  | [] => by
    rw [List.map_nil]
    unfold PyData.depthAll
    exact Nat.zero_le _
  | x :: l => by
    rw [List.map_cons]
    unfold PyData.depthAll
    exact Nat.max_le.mpr ⟨h x, dep_all g n h l⟩
theorem lay_t (l : List Nat) : (tD l).canLay0 = true := by
  unfold tD PyData.canLay0
  exact lay_all (fun (n : Nat) => PyData.int (n : Int)) (fun x => by unfold PyData.canLay0; rfl) l
theorem shp_ts (l : List (List Nat)) : SeqAt.shaped (.list (l.map tD)) = true := by
  unfold SeqAt.shaped
  rw [Bool.and_eq_true, decide_eq_true_eq]
  refine ⟨?_, ?_⟩
  · unfold PyData.canLay0
    exact lay_all tD lay_t l
  · unfold PyData.depth
    have := dep_all tD 1 (fun x => by rw [depth_t]; exact Nat.le_refl _) l
    omega
theorem eqv_nil (l : List (List Nat)) : PyData.eqv (.list (l.map tD)) (.list []) = l.isEmpty := by
  cases l with
  | nil => rfl
  | cons a l => rfl
/-- a list of tuples of numbers, and the list that has nothing -/
theorem eq_nil {K : PySem.W.Frag} {H : Hp} {a b : Addr} {vs : List V} {l : List (List Nat)} {Q : VK} (e : H a = some (.lst vs)) (its : ITs H vs l) (eb : H b = some (.lst [])) (q : Q (.bl l.isEmpty) H) : rEqD K (.ref a) (.ref b) H Q :=
  ⟨_, _, .lst (SqL.of e) its.dp, .lst (SqL.of eb) .nil, shp_ts l, by decide +kernel, by rw [eqv_nil]; exact q⟩
theorem ne_nil {K : PySem.W.Frag} {H : Hp} {a b : Addr} {vs : List V} {l : List (List Nat)} {Q : VK} (e : H a = some (.lst vs)) (its : ITs H vs l) (eb : H b = some (.lst [])) (q : Q (.bl (!l.isEmpty)) H) : rNeD K (.ref a) (.ref b) H Q :=
  ⟨_, _, .lst (SqL.of e) its.dp, .lst (SqL.of eb) .nil, shp_ts l, by decide +kernel, by rw [eqv_nil]; exact q⟩
/-! ### dicts whose keys are tuples of numbers -/
/-- may be read: its pairs -/
def DR (H : Hp) (v : V) (kvs : List (List Nat × V)) : Prop := ∃ d, v = .ref d ∧ Rd H d (.dT (kP kvs))
theorem DR.kp {H H' : Hp} {v : V} {kvs : List (List Nat × V)} (h : DR H v kvs) (k : Kp H H') : DR H' v kvs := let ⟨d, e, r⟩ := h; ⟨d, e, k.rd (fun ps z => by cases z) r⟩
theorem DR.get {H : Hp} {d : Addr} {kvs : List (List Nat × V)} {v : V} {k : List Nat} (h : Rd H d (.dT (kP kvs))) (i : IT H v k) : DGet H d v (valV kvs k) := by
  obtain ⟨b, rfl, e⟩ := i.key
  exact .inr ⟨_, kM k, b, h, rfl, e, (val_kP _ _).symm⟩
theorem val_mem (kvs : List (List Nat × V)) (k : List Nat) : (valV kvs k).isSome = decide (k ∈ kvs.map (·.1)) := by
  induction kvs with
  | nil => rfl
  | cons p r ih =>
    by_cases e : p.1 = k
    · rw [valV_pos e]
      simp [e]
    · rw [valV_neg e, ih]
      have : ¬ k = p.1 := fun z => e z.symm
      simp [this]
theorem kS_kP (l : List (List Nat)) : kS l = kP (l.map fun m => (m, .bl true)) := by
  unfold kS kP
  rw [List.map_map]
  rfl
/-- what of the answers has its place lost -/
def beatB (F : List (List Nat)) (os : List (Option (List (List Nat)))) : Bool := os.any fun o => match o with
  | none => true
  | some l => (l.filter fun m => !decide (m ∈ F)).isEmpty
section
variable {P : Program} {w : World} {K : PySem.W.Frag} {mg : Str → Option Value} {base : Heap} {f c C : Addr} {fd : FuncData}
abbrev st_is_beaten : Stmt := inClass (topS 32) 4
abbrev N_is_beaten : List Str := ["self", "masks", "found", "answers", "other"]
theorem sc_is_beaten : FnScope N_is_beaten ["self", "masks", "found"] (defScope st_is_beaten) := ⟨rfl, rfl, rfl, by decide +kernel, rfl, by decide +kernel, by decide +kernel⟩
def sp_is_beaten (C : Addr) : Sp := spR 3 (fun vs H (x : (Nat × Nat × Nat × Addr) × (List Nat × List (Option (List (List Nat)))) × List (List Nat × V)) => ∃ v u z kvs y, vs = [v, u, z] ∧ FlAt H C v (fsW x.1.1 x.1.2.1 x.1.2.2.1 x.1.2.2.2) ∧ IT H u x.2.1.1 ∧ Rd H x.1.2.2.2 (.dT (kP kvs)) ∧ valV kvs x.2.1.1 = some y ∧ AnsL H y x.2.1.2 ∧ DR H z x.2.2 ∧ (∀ o ∈ x.2.1.2, ∀ l ∈ o, l.length ≤ 1000) )
  fun x v H => v = .bl (beatB (x.2.2.map (·.1)) x.2.1.2)
theorem cal_is_beaten (FC : FlC K C) (F : MthC K C "is_beaten" "Flood.is_beaten" st_is_beaten f fd c) (B : Bi mg) : MCal P w K mg base C 1 "is_beaten" ["self", "masks", "found"] (sp_is_beaten C) := by
  refine F.cal sc_is_beaten spR_len (fun _ _ _ _ _ _ us hl => match us, hl with | [_, _, _], _ => rfl) (fun A outer s H vs Q hr h => ?_) spR_E
  refine ⟨_, (pss_cons (ps_for PassesOwn.never rfl (pi_listK K (hl := (pe_dget (hu_of hr) (pe_fldK K (he := (pv 0))) (pv 1) (fun _ _ => rfl)))) (pg_name (i := 3) sc_is_beaten.nd rfl (by first | exact Or.inl rfl | exact Or.inr rfl)) (pss_one (ps_if (PW.pt (pw_or (pt_cmpR op_isN (pv 3) pe_non (nomark _)) (pw_or1 (pt_cmpR (op_eqDK K (hu := hr.units)) (pe_lc (own := [("other", 4)]) rfl sc_is_beaten.nd (pi_listK K (hl := (pv 3))) (blkOk_by (own := [("other", 4)]) (N := N_is_beaten) (sc := defScope st_is_beaten) (by decide +kernel)) (fun _ _ _ _ _ => (pg_name (i := 4) sc_is_beaten.nd rfl (by first | exact Or.inl rfl | exact Or.inr rfl))) (fun _ _ _ _ _ => (pts_one (pt_cmp (pc_dnotin (hu_of hr) (pv 4) (pv 2))))) (fun _ _ _ _ _ => (pv 4))) (pe_lst pa_nil) (nomark _))))) (pss_one (ps_ret pe_bl)) pss_nil)))
  (pss_one (ps_ret pe_bl))), ?_⟩
  obtain ⟨_, ⟨⟨t, most, melts, W⟩, ⟨x, os⟩, fkv⟩, ⟨_, u, z, kvs, y, rfl, ⟨a, dx, rfl, ea⟩, it, rw, hy, ⟨r, vs, rfl, er, pr⟩, ⟨d, rfl, rd⟩, small⟩, k⟩ := h
  dsimp only at ea it rw hy pr rd small
  have nt : ∀ ps, HO.dT (kP fkv) ≠ HO.tbl ps := fun ps z => by cases z
  refine ⟨_, rfl, a, C, dx, _, .ref W, rfl, ea, FC.cl, FC.ways, rfl, _, rfl, W, .ref r, rfl, by rw [← hy]; exact DR.get rw it, ?_⟩
  refine ⟨r, rfl, ⟨_, SqL.of er⟩, for_list (K := K) (a := r) (xs := vs) (fun i σ H' => Kp H H' ∧ (∃ o3 o4, σ = [some (.ref a), some u, some (.ref d), o3, o4]) ∧ beatB (fkv.map (·.1)) (os.take i) = false) ⟨Kp.refl _, ⟨_, _, rfl⟩, rfl⟩ (fun i σ H' _ I => SqL.of (I.1.lst er)) ?_ ?_⟩
  · rintro i y σ H' hy ⟨kp, ⟨o3, o4, rfl⟩, bt⟩
    obtain ⟨o, ho, av⟩ := Paired.at' pr hy
    have av := av.kp kp
    have grow : beatB (fkv.map (·.1)) (os.take (i + 1)) = (match o with
      | none => true
      | some l => (l.filter fun m => !decide (m ∈ fkv.map (·.1))).isEmpty) := by
      rw [take_more ho]
      unfold beatB at bt ⊢
      rw [List.any_append, bt, Bool.false_or]
      simp only [List.any_cons, List.any_nil, Bool.or_false]
      cases o <;> rfl
    have fin : ∀ H2, Kp H' H2 → beatB (fkv.map (·.1)) (os.take (i + 1)) = true → Q (.bl true) H2 := fun H2 k2 hb => by
      refine k _ _ (kp.trans k2) ?_
      dsimp only
      congr 1
      refine (List.any_eq_true.mpr ?_).symm
      obtain ⟨o, hm, h⟩ := List.any_eq_true.mp hb
      exact ⟨o, List.mem_of_mem_take hm, h⟩
    cases o with
    | none =>
      cases av
      refine ⟨_, rfl, rfl, _, rfl, ifT rfl (ifT rfl (fin H' (Kp.refl _) ?_))⟩
      rw [grow]
    | some l =>
      obtain ⟨b, ls, rfl, eb, itl⟩ := av
      have l1 : l.length ≤ 1000 := small _ (List.mem_of_getElem? ho) l rfl
      refine ⟨_, rfl, rfl, _, rfl, ifF rfl ?_⟩
      refine ⟨_, rfl, b, rfl, ⟨_, SqL.of eb⟩, fun D hD => ?_⟩
      refine turns_list (xs := ls) (fun j H2 => AccI H' D IT ((l.take j).filter fun m => !decide (m ∈ fkv.map (·.1))) H2) (AccI.zero hD) (fun j H2 I => SqL.of (I.1.lst eb)) ?_ ?_
      · intro j z H2 hz I
        obtain ⟨m, hm, itm⟩ := Paired.at' itl hz
        have itm := itm.kp I.1
        refine ⟨rfl, _, rfl, _, rfl, d, _, rfl, DR.get ((kp.trans I.1).rd nt rd) itm, ?_⟩
        rw [val_mem]
        refine ⟨_, rfl, ite_b (fun hb => ⟨_, rfl, ?_⟩) fun hb => ?_⟩
        · exact I.push stab_it hD (Kp.refl _) itm (sl (Nat.le_trans (List.length_filter_le _ _) (by rw [List.length_take]; omega))) (by rw [take_more hm]; exact fil_yes hb)
        · exact I.keep stab_it (Kp.refl _) (by rw [take_more hm]; exact fil_no hb)
      · rintro H2 ⟨k2, acc, hacc, p⟩
        rw [itl.length, List.take_length] at p
        refine ⟨Nat.zero_le _, fun e he => ?_⟩
        refine eq_nil (a := D) (b := e) (by rw [upd_ne (ne_of_none hacc he)]; exact hacc) (Paired.mono (fun _ _ q => IT.tk q (Tk.new he)) p) upd_same ?_
        have k3 := k2.trans (Kp.new (o := .lst []) he)
        refine ⟨_, rfl, ite_b (fun hb => fin _ k3 (by rw [grow]; exact hb)) fun hb => ⟨kp.trans k3, ⟨_, _, rfl⟩, by rw [grow]; exact hb⟩⟩
  · rintro σ H' ⟨kp, ⟨o3, o4, rfl⟩, bt⟩
    rw [pr.length, List.take_length] at bt
    exact k _ _ kp (by dsimp only; rw [bt])
end
end MX
end

section
set_option Elab.async false
set_option linter.all false
set_option maxRecDepth 100000
set_option maxHeartbeats 4000000
namespace MX
open PySem PySem.Spec PyProof.Rows L2
/-- while, by a measure that the word names -/
theorem while_m {c : TT} {tb : TS} {D : Ends} {σ : L2.St} {H : Hp} (Pv : Nat → L2.St → Hp → Prop) (h0 : ∃ m, Pv m σ H)
    (hs : ∀ m σ H, Pv m σ H → c σ H fun b H1 => if b = true then ∃ N : L2.St → Hp → Prop, (∀ σ' H', N σ' H' → ∃ m', m' < m ∧ Pv m' σ' H') ∧ tb { D with nx := N, ct := N, bk := D.nx } σ H1 else D.nx σ H1) : tWhile c tb D σ H := ⟨Pv, h0, hs⟩
theorem put_keys (kvs : List (List Nat × V)) (k : List Nat) (v : V) : (putK kvs k v).map (·.1) = putN (kvs.map (·.1)) k := by
  unfold putK putN
  rw [valV_any, val_mem]
  by_cases h : k ∈ kvs.map (·.1)
  · rw [if_pos (decide_eq_true h), if_pos h, List.map_map]
    apply List.map_congr_left
    intro p _
    show (if p.1 = k then (p.1, v) else p).1 = p.1
    split <;> rfl
  · rw [if_neg (by rw [decide_eq_false h]; decide), if_neg h, List.map_append]
    rfl
theorem kP_len (l : List (List Nat × V)) : (kP l).length = l.length := by unfold kP; rw [List.length_map]
theorem kP_at {l : List (List Nat × V)} {i : Nat} {k : List Key} {v : V} (h : (kP l)[i]? = some (k, v)) : ∃ m, l[i]? = some (m, v) ∧ k = kM m := by
  obtain ⟨p, hp, e⟩ := map_at h
  cases e
  exact ⟨p.1, hp, rfl⟩
/-- a place that is lost: all answers to some loss are lost -/
inductive Lost (t most melts : Nat) : List Nat → Prop where
  | base {m : List Nat} : hasAll t m = false → Lost t most melts m
  | none {m : List Nat} : none ∈ ansOf t most melts m → Lost t most melts m
  | some {m : List Nat} {l : List (List Nat)} : some l ∈ ansOf t most melts m → (∀ x ∈ l, Lost t most melts x) → Lost t most melts m
theorem beat_iff {F : List (List Nat)} {os : List (Option (List (List Nat)))} : beatB F os = true ↔ none ∈ os ∨ ∃ l, some l ∈ os ∧ ∀ x ∈ l, x ∈ F := by
  unfold beatB
  rw [List.any_eq_true]
  constructor
  · rintro ⟨o, ho, h⟩
    cases o with
    | none => exact .inl ho
    | some l =>
      refine .inr ⟨l, ho, fun x hx => ?_⟩
      have h := List.filter_eq_nil_iff.mp (List.isEmpty_iff.mp h) x hx
      simpa using h
  · rintro (h | ⟨l, h, q⟩)
    · exact ⟨none, h, rfl⟩
    · refine ⟨some l, h, ?_⟩
      refine List.isEmpty_iff.mpr (List.filter_eq_nil_iff.mpr fun x hx => ?_)
      simpa using q x hx
theorem Lost.of_beat {t most melts : Nat} {F : List (List Nat)} {m : List Nat} (h : beatB F (ansOf t most melts m) = true) (q : ∀ x ∈ F, Lost t most melts x) : Lost t most melts m := by
  rcases beat_iff.mp h with h | ⟨l, h, r⟩
  · exact .none h
  · exact .some h fun x hx => q x (r x hx)
structure Reckoned (t most melts : Nat) (keys F : List (List Nat)) : Prop where
  sub : ∀ m ∈ F, m ∈ keys
  base : ∀ m ∈ keys, hasAll t m = false → m ∈ F
  closed : ∀ m ∈ keys, m ∉ F → beatB F (ansOf t most melts m) = false
  sound : ∀ m ∈ F, Lost t most melts m
/-- the ways at W: at each key what it answers -/
structure WaysR (t most melts : Nat) (W : Addr) (H : Hp) (kvs : List (List Nat × V)) : Prop where
  nd : (kvs.map (·.1)).Nodup
  sz : kvs.length ≤ 1000000
  ok : ∀ m ∈ kvs.map (·.1), m.length ≤ 6 ∧ ∀ x ∈ m, x < 8
  an : ∀ p ∈ kvs, AnsL (off W H) p.2 (ansOf t most melts p.1)
theorem ans_small {t most melts : Nat} {m : List Nat} (h : m.length ≤ 6) (h8 : ∀ x ∈ m, x < 8) (hm : melts ≤ 3) : ∀ o ∈ ansOf t most melts m, ∀ l ∈ o, l.length ≤ 1000 ∧ ∀ x ∈ l, x.length ≤ 9 ∧ ∀ y ∈ x, y < 8 := by
  intro o ho l hl
  unfold ansOf at ho
  obtain ⟨left, h1, rfl⟩ := List.mem_map.mp ho
  obtain ⟨l6, l8⟩ := chosen_ok h h8 melts left h1
  split at hl
  · cases hl
    have st0 : ∀ y ∈ [left], y.length = left.length ∧ ∀ m ∈ y, m < 8 := fun y hy => by rw [List.mem_singleton.mp hy]; exact ⟨rfl, l8⟩
    have f1 := filled_len (most := most) st0 melts
    have f2 := filled_mem (most := most) melts st0
    refine ⟨?_, fun x hx => ?_⟩
    · unfold filled sortL
      rw [List.length_mergeSort]
      rw [List.length_cons, List.length_nil, Nat.zero_add, Nat.one_mul] at f1
      exact Nat.le_trans f1 (Nat.le_trans (Nat.pow_le_pow_right (by decide) hm) (by decide))
    · unfold filled at hx
      rw [sort_mem] at hx
      obtain ⟨q1, q2⟩ := f2 x hx
      exact ⟨by omega, q2⟩
  · cases hl
theorem val_at {kvs : List (List Nat × V)} {k : List Nat} {v : V} (nd : (kvs.map (·.1)).Nodup) (h : (k, v) ∈ kvs) : valV kvs k = some v := by
  induction kvs with
  | nil => cases h
  | cons p r ih =>
    rw [List.map_cons, List.nodup_cons] at nd
    rcases List.mem_cons.mp h with e | h
    · subst e
      exact valV_pos rfl
    · rw [valV_neg, ih nd.2 h]
      intro e
      exact nd.1 (by rw [e]; exact List.mem_map.mpr ⟨_, h, rfl⟩)
/-- the places that are lost next -/
def nextB (t most melts : Nat) (F : List (List Nat)) (m : List Nat) : Bool := !decide (m ∈ F) && beatB F (ansOf t most melts m)
structure RecB (t most melts : Nat) (keys F : List (List Nat)) : Prop where
  nd : F.Nodup
  sub : ∀ m ∈ F, m ∈ keys
  base : ∀ m ∈ keys, hasAll t m = false → m ∈ F
  sound : ∀ m ∈ F, Lost t most melts m
theorem RecB.step {t most melts : Nat} {keys F : List (List Nat)} (R : RecB t most melts keys F) : RecB t most melts keys ((keys.filter (nextB t most melts F)).foldl putN F) where
  nd := putNs_nodup _ R.nd
  sub := fun m hm => by
    rcases (putNs_mem _).mp hm with h | h
    · exact R.sub m h
    · exact (List.mem_filter.mp h).1
  base := fun m hm h => (putNs_mem _).mpr (.inl (R.base m hm h))
  sound := fun m hm => by
    rcases (putNs_mem _).mp hm with h | h
    · exact R.sound m h
    · have h2 := (List.mem_filter.mp h).2
      unfold nextB at h2
      rw [Bool.and_eq_true] at h2
      exact Lost.of_beat h2.2 R.sound
theorem RecB.more {t most melts : Nat} {keys F : List (List Nat)} (R : RecB t most melts keys F) (h : keys.filter (nextB t most melts F) ≠ []) : F.length < ((keys.filter (nextB t most melts F)).foldl putN F).length := by
  obtain ⟨m, hm⟩ := List.exists_mem_of_ne_nil _ h
  have h2 := (List.mem_filter.mp hm).2
  unfold nextB at h2
  rw [Bool.and_eq_true] at h2
  have hn : m ∉ F := by simpa using h2.1
  have := nodup_len (m :: F) ((keys.filter (nextB t most melts F)).foldl putN F) (List.nodup_cons.mpr ⟨hn, R.nd⟩) fun x hx => (putNs_mem _).mpr (by
    rcases List.mem_cons.mp hx with e | h
    · subst e
      exact .inr hm
    · exact .inl h)
  rw [List.length_cons] at this
  omega
theorem RecB.done {t most melts : Nat} {keys F : List (List Nat)} (h : keys.filter (nextB t most melts F) = []) : ∀ m ∈ keys, m ∉ F → beatB F (ansOf t most melts m) = false := by
  intro m hm hn
  have h2 := List.filter_eq_nil_iff.mp h m hm
  unfold nextB at h2
  rw [decide_eq_false hn] at h2
  simpa using h2
section
variable {P : Program} {w : World} {K : PySem.W.Frag} {mg : Str → Option Value} {base : Heap} {f c C : Addr} {fd : FuncData}
abbrev st_reckon : Stmt := inClass (topS 32) 3
abbrev N_reckon : List Str := ["self", "masks", "found", "days", "fresh"]
theorem sc_reckon : FnScope N_reckon ["self"] (defScope st_reckon) := ⟨rfl, rfl, rfl, by decide +kernel, rfl, by decide +kernel, by decide +kernel⟩
def sp_reckon (C : Addr) : Sp := spQ 1 (fun vs H (x : (Nat × Nat × Nat × Addr) × List (List Nat × V)) => ∃ v, vs = [v] ∧ FlAt H C v (fsW x.1.1 x.1.2.1 x.1.2.2.1 x.1.2.2.2) ∧ H x.1.2.2.2 = some (.dT (kP x.2)) ∧ WaysR x.1.1 x.1.2.1 x.1.2.2.1 x.1.2.2.2 H x.2 ∧ x.1.1 ≤ 3 ∧ x.1.2.2.1 ≤ 3)
  fun x H0 v H => ∃ N fkv, v = .ref N ∧ H0 N = none ∧ H N = some (.dT (kP fkv)) ∧ Reckoned x.1.1 x.1.2.1 x.1.2.2.1 (x.2.map (·.1)) (fkv.map (·.1))
theorem cal_reckon (FC : FlC K C) (F : MthC K C "reckon" "Flood.reckon" st_reckon f fd c) (B : Bi mg) (C_has_all : Cal P w K mg base 2 "has_all" ["texts", "masks"] sp_has_all) (M_is_beaten : MCal P w K mg base C 1 "is_beaten" ["self", "masks", "found"] (sp_is_beaten C)) : MCal P w K mg base C 3 "reckon" ["self"] (sp_reckon C) := by
  refine F.cal sc_reckon spQ_len (fun _ _ _ _ _ _ us hl => match us, hl with | [_], _ => rfl) (fun A outer s H vs Q hr h => ?_) spQ_E
  refine ⟨_, (pss_cons (ps_set (i := 2) sc_reckon.nd rfl (Or.inr rfl) (pe_lock (pe_dcT (own := [("masks", 1)]) hr.units0 rfl sc_reckon.nd (pi_keys (pe_fldK K (he := (pv 0)))) (blkOk_by (own := [("masks", 1)]) (N := N_reckon) (sc := defScope st_reckon) (by decide +kernel)) (fun _ _ _ _ _ => (pg_name (i := 1) sc_reckon.nd rfl (by first | exact Or.inl rfl | exact Or.inr rfl))) (fun _ _ _ _ _ => (pts_one (pt_not (pt_val (pe_cal C_has_all hr (by decide) (by rfl) (pa_cons (pe_fldK K (he := (pv 0))) (pa_cons (pv 1) pa_nil))))))) (fun _ _ _ _ _ => (pv 1)) (fun _ _ _ _ _ => pe_int))))
  (pss_cons (ps_par (i := 3) (j := 4) (by rfl) sc_reckon.nd rfl rfl (by decide) rfl rfl (pa_cons pe_int (pa_cons (pe_lst (pa_cons (pe_tup pa_nil) pa_nil)) pa_nil)) (by rfl))
  (pss_cons (ps_while PassesOwn.never (pt_cmpR (op_neDK K (hu := hr.units)) (pv 4) (pe_lst pa_nil) (nomark _)) (pss_cons (ps_aug (i := 3) sc_reckon.nd rfl (Or.inl rfl) pe_int ip_add)
  (pss_cons (ps_lock (ps_setLc (own := [("masks", 1)]) (i := 4) rfl sc_reckon.nd rfl rfl (sw_true rfl rfl rfl (by decide +kernel)) (pi_keys (pe_fldK K (he := (pv 0)))) (blkOk_by (own := [("masks", 1)]) (N := N_reckon) (sc := defScope st_reckon) (by decide +kernel)) (fun _ _ _ _ _ => (pg_name (i := 1) sc_reckon.nd rfl (by first | exact Or.inl rfl | exact Or.inr rfl))) (fun _ _ _ _ _ => (pts_one (PW.pt (pw_and (pt_cmp (pc_dnotin (hu_of hr) (pv 1) (pv 2))) (pw_and1 (pt_val (pe_mcal M_is_beaten hr (by decide) (pv 0) (pa_cons (pv 1) (pa_cons (pv 2) pa_nil))))))))) (fun _ _ _ _ _ => (pv 1))))
  (pss_one (ps_for PassesOwn.never rfl (pi_listK K (hl := (pv 4))) (pg_name (i := 1) sc_reckon.nd rfl (by first | exact Or.inl rfl | exact Or.inr rfl)) (pss_one (ps_dput (hu_of hr) (pv 2) (pv 1) (pv 3) (by rfl))))))))
  (pss_one (ps_ret (pv 2)))))), ?_⟩
  obtain ⟨_, ⟨⟨t, most, melts, W⟩, kvs⟩, ⟨_, rfl, ⟨a, dx, rfl, ea⟩, eW, ways, h1, h2⟩, k⟩ := h
  dsimp only at ea eW ways h1 h2
  have naW : a ≠ W := by
    rintro rfl
    rw [ea] at eW
    cases eW
  have look : ∀ {H' : Hp}, Kp (off W H) H' → H' a = some (.ins C dx (fsW t most melts W)) := fun k' => k'.ins (by rw [off_ne naW]; exact ea)
  refine ⟨W, _, eW, True.intro, fun od => ⟨_, rfl, a, C, dx, _, .ref W, rfl, by rw [upd_ne naW]; exact ea, FC.cl, FC.ways, rfl, W, od, rfl, .inr ⟨_, upd_same, fun D hD => ?_⟩⟩⟩
  have nDW : D ≠ W := by
    rintro rfl
    rw [upd_same] at hD
    cases hD
  have hD0 : H D = none := by rw [upd_ne nDW] at hD; exact hD
  have kfz : ∀ {o : HO}, Kp (off W H) (upd H W o) := (kp_off H).put off_same
  refine turns_keys (o := od) (kvs := kP kvs) (fun i H' => Kp (upd H W (.frz od (.dT (kP kvs)))) H' ∧ ∃ fkv, H' D = some (.dT (kP fkv)) ∧ fkv.map (·.1) = (((kvs.map (·.1)).take i).filter fun m => !hasAll t m).foldl putN []) ⟨Kp.new hD, [], upd_same, rfl⟩ (fun i H' I => I.1.frz upd_same) ?_ ?_
  · rintro i kk v q H' hkv hq ⟨kp, fkv, hf, ef⟩
    obtain ⟨m, hm, rfl⟩ := kP_at hkv
    have it : IT H' (.ref q) m := IT.of_key hq
    have mk : m ∈ kvs.map (·.1) := List.mem_map.mpr ⟨_, List.mem_of_getElem? hm, rfl⟩
    have gm : (kvs.map (·.1))[i]? = some m := by rw [List.getElem?_map, hm]; rfl
    obtain ⟨m6, m8⟩ := ways.ok m mk
    refine ⟨rfl, ⟨_, rfl, a, C, dx, _, nV t, rfl, look (kfz.trans kp), FC.cl, FC.texts, rfl, _, rfl, rfl, (t, m), ⟨.ref q, rfl, it, Nat.le_trans m6 (by decide), Nat.le_trans h1 (by decide)⟩, ?_⟩⟩
    rintro _ H3 k3 rfl
    refine ⟨_, rfl, ite_b (fun hb => ⟨_, rfl, _, kM m, q, rfl, k3.tup hq, k3.dT hf, ?_, ?_⟩) (fun hb => ⟨kp.trans k3, fkv, k3.dT hf, ?_⟩)⟩
    · rw [kP_len]
      refine sl ?_
      have e2 : fkv.length = (fkv.map (·.1)).length := by rw [List.length_map]
      rw [e2, ef]
      refine Nat.le_trans (putNs_len _ _) ?_
      have h3 := List.length_filter_le (fun m => !hasAll t m) ((kvs.map (·.1)).take i)
      have h4 : ((kvs.map (·.1)).take i).length ≤ kvs.length := by rw [List.length_take, List.length_map]; omega
      have := ways.sz
      simp only [List.length_nil]
      omega
    · refine ⟨(kp.trans k3).put hD, putK fkv m (.int 0), ?_, ?_⟩
      · rw [put_kP]
        exact upd_same
      · rw [put_keys, ef, take_more gm, fil_yes (p := fun m => !hasAll t m) hb, List.foldl_append]
        rfl
    · rw [take_more gm, fil_no (p := fun m => !hasAll t m) hb, ef]
  · rintro H1 ⟨kp, fkv, hf, ef⟩
    refine ⟨kp.frz upd_same, ?_⟩
    have kpH : Kp H (upd H1 W (.dT (kP kvs))) := Kp.unlock eW (fun ps z => by cases z) kp
    have hf2 : upd H1 W (.dT (kP kvs)) D = some (.dT (kP fkv)) := by rw [upd_ne nDW]; exact hf
    generalize upd H1 W (.dT (kP kvs)) = H2 at *
    refine ⟨Nat.zero_le _, fun p0 hp0 => ⟨by show 1 ≤ sizeLine; decide, fun d0 hd0 => ?_⟩⟩
    rw [kP_len, List.take_of_length_le (by rw [List.length_map]; exact Nat.le_refl _)] at ef
    have R0 : RecB t most melts (kvs.map (·.1)) (fkv.map (·.1)) := by
      rw [ef]
      refine ⟨putNs_nodup _ List.nodup_nil, fun m hm => ?_, fun m hm h => (putNs_mem _).mpr (.inr (List.mem_filter.mpr ⟨hm, by rw [h]; rfl⟩)), fun m hm => ?_⟩
      · rcases (putNs_mem _).mp hm with h | h
        · cases h
        · exact (List.mem_filter.mp h).1
      · rcases (putNs_mem _).mp hm with h | h
        · cases h
        · exact .base (by simpa using (List.mem_filter.mp h).2)
    refine ⟨_, _, rfl, ?_⟩
    refine while_m (fun m σ H' => Kp H H' ∧ ∃ fkv fr o1 days vs L, σ = [some (.ref a), o1, some (.ref D), some (.int days), some (.ref fr)] ∧ H' D = some (.dT (kP fkv)) ∧ H' fr = some (.lst vs) ∧ ITs H' vs L ∧ RecB t most melts (kvs.map (·.1)) (fkv.map (·.1)) ∧ (L = [] → ∀ m ∈ kvs.map (·.1), m ∉ fkv.map (·.1) → beatB (fkv.map (·.1)) (ansOf t most melts m) = false) ∧ m = 2 * (kvs.length - fkv.length) + if L = [] then 0 else 1) ⟨_, (kpH.trans (Kp.new hp0)).trans (Kp.new hd0), fkv, d0, _, 0, [.ref p0], [[]], rfl, ?_, upd_same, .cons ⟨p0, rfl, by rw [upd_ne (ne_of_none upd_same hd0)]; exact upd_same⟩ .nil, R0, (by intro z; cases z), rfl⟩ ?_
    · exact ((Kp.new hp0).trans (Kp.new hd0)).dT hf2
    · rintro m σ H3 ⟨kp3, fkv, fr, o1, days, vs, L, rfl, hf3, hfr, its, R, cl, rfl⟩
      refine ⟨_, rfl, Nat.zero_le _, fun e he => ne_nil (a := fr) (b := e) (by rw [upd_ne (ne_of_none hfr he)]; exact hfr) (its.tk (Tk.new he)) upd_same ⟨_, rfl, ite_b (fun hb => ⟨_, fun _ _ h => h, ?_⟩) fun hb => ?_⟩⟩
      · have hL : L ≠ [] := by
          rintro rfl
          cases hb
        rw [if_neg hL]
        refine ⟨_, rfl, days, 1, rfl, rfl, ?_⟩
        have k3e : Kp H3 (upd H3 e (.lst [])) := Kp.new he
        have hf3e := k3e.dT hf3
        have kp3e := kp3.trans k3e
        have wW := kp3e.dT eW
        generalize upd H3 e (.lst []) = H4 at *
        refine ⟨W, _, wW, True.intro, fun od2 => ?_⟩
        have kz : Kp (off W H) (upd H4 W (.frz od2 (.dT (kP kvs)))) := ((kp_off H).trans kp3e).put off_same
        have nDW3 : D ≠ W := nDW
        refine ⟨_, rfl, a, C, dx, _, .ref W, rfl, look kz, FC.cl, FC.ways, rfl, W, od2, rfl, .inr ⟨_, upd_same, fun E hE => ?_⟩⟩
        have hfz : upd H4 W (.frz od2 (.dT (kP kvs))) D = some (.dT (kP fkv)) := by rw [upd_ne nDW]; exact hf3e
        refine turns_keys (o := od2) (kvs := kP kvs) (fun i H' => AccI (upd H4 W (.frz od2 (.dT (kP kvs)))) E IT (((kvs.map (·.1)).take i).filter (nextB t most melts (fkv.map (·.1)))) H') (AccI.zero hE) (fun i H' I => I.1.frz upd_same) ?_ ?_
        · rintro i kk v q H' hkv hq I
          obtain ⟨m, hm, rfl⟩ := kP_at hkv
          have it : IT H' (.ref q) m := IT.of_key hq
          have mk : m ∈ kvs.map (·.1) := List.mem_map.mpr ⟨_, List.mem_of_getElem? hm, rfl⟩
          have gm : (kvs.map (·.1))[i]? = some m := by rw [List.getElem?_map, hm]; rfl
          obtain ⟨m6, m8⟩ := ways.ok m mk
          have vm : valV kvs m = some v := val_at ways.nd (List.mem_of_getElem? hm)
          have kzi := kz.trans I.1
          have size : ((((kvs.map (·.1)).take i).filter (nextB t most melts (fkv.map (·.1))))).length < sizeLine := by
            refine sl (Nat.le_trans (List.length_filter_le _ _) ?_)
            rw [List.length_take, List.length_map]
            have := ways.sz
            omega
          refine ⟨rfl, ?_⟩
          refine ⟨_, rfl, _, rfl, D, _, rfl, DR.get (.inl (I.1.dT hfz)) it, ⟨_, rfl, ?_⟩⟩
          rw [val_mem]
          have no : ∀ H5, Kp H' H5 → nextB t most melts (fkv.map (·.1)) m = false → AccI (upd H4 W (.frz od2 (.dT (kP kvs)))) E IT (((kvs.map (·.1)).take (i + 1)).filter (nextB t most melts (fkv.map (·.1)))) H5 := fun H5 k5 h => I.keep stab_it k5 (by rw [take_more gm]; exact fil_no h)
          refine ite_b (fun hn => ?_) fun hn => ?_
          · refine ⟨_, rfl, a, dx, _, rfl, look kzi, rfl, _, rfl, _, rfl, rfl, ((t, most, melts, W), (m, ansOf t most melts m), fkv), ⟨_, _, _, kvs, v, rfl, ⟨a, dx, rfl, look kzi⟩, it, .inr ⟨od2, I.1.frz upd_same⟩, vm, (ways.an _ (List.mem_of_getElem? hm)).kp kzi, ⟨D, rfl, .inl (I.1.dT hfz)⟩, fun o ho l hl => (ans_small m6 m8 h2 o ho l hl).1⟩, ?_⟩
            rintro _ H5 k5 rfl
            refine ⟨_, rfl, ?_⟩
            have e5 : nextB t most melts (fkv.map (·.1)) m = beatB (fkv.map (·.1)) (ansOf t most melts m) := by
              unfold nextB
              rw [hn, Bool.true_and]
            dsimp only
            rw [← e5]
            refine ite_b (fun hb2 => ?_) fun hb2 => ?_
            · exact ⟨_, rfl, I.push stab_it hE k5 (it.kp k5) size (by rw [take_more gm]; exact fil_yes hb2)⟩
            · exact no _ k5 hb2
          · exact no _ (Kp.refl _) (by unfold nextB; rw [hn]; rfl)
        · rintro H5 ⟨kp5, acc, hacc, p⟩
          rw [kP_len, List.take_of_length_le (by rw [List.length_map]; exact Nat.le_refl _)] at p
          refine ⟨kp5.frz upd_same, ?_⟩
          have kp6 : Kp H4 (upd H5 W (.dT (kP kvs))) := Kp.unlock wW (fun ps z => by cases z) kp5
          have nEW : E ≠ W := by
            rintro rfl
            rw [upd_same] at hE
            cases hE
          have hacc6 : upd H5 W (.dT (kP kvs)) E = some (.lst acc) := by rw [upd_ne nEW]; exact hacc
          have p6 : ITs (upd H5 W (.dT (kP kvs))) acc ((kvs.map (·.1)).filter (nextB t most melts (fkv.map (·.1)))) := Paired.mono (fun _ _ q => IT.tk q (Tk.frz (kp5.frz upd_same))) p
          have kp7 := kp3e.trans kp6
          have hf7 := kp6.dT hf3e
          generalize upd H5 W (.dT (kP kvs)) = H7 at *
          have L6 : ((kvs.map (·.1)).filter (nextB t most melts (fkv.map (·.1)))).length ≤ kvs.length := by
            have := List.length_filter_le (nextB t most melts (fkv.map (·.1))) (kvs.map (·.1))
            rw [List.length_map] at this
            exact this
          generalize hN : (kvs.map (·.1)).filter (nextB t most melts (fkv.map (·.1))) = Lx at *
          refine ⟨_, rfl, E, rfl, ⟨_, SqL.of hacc6⟩, for_list (K := K) (a := E) (xs := acc) (fun i σ H' => Kp H H' ∧ H' E = some (.lst acc) ∧ ITs H' acc Lx ∧ ∃ fkv' o1, σ = [some (.ref a), o1, some (.ref D), some (.int (days + 1)), some (.ref E)] ∧ H' D = some (.dT (kP fkv')) ∧ fkv'.map (·.1) = (Lx.take i).foldl putN (fkv.map (·.1))) ⟨kp7, hacc6, p6, fkv, _, rfl, hf7, rfl⟩ (fun i σ H' _ I => SqL.of I.2.1) ?_ ?_⟩
          · rintro i y σ H8 hy ⟨kp8, hE8, p8, fkv', o1, rfl, hf8, ef8⟩
            obtain ⟨m, hm, it⟩ := Paired.at' p8 hy
            obtain ⟨b, rfl, hb⟩ := it.key
            have nDE : E ≠ D := by
              rintro rfl
              rw [hE8] at hf8
              cases hf8
            refine ⟨_, rfl, _, rfl, _, rfl, D, _, rfl, DPut.t hf8 hb ?_, ?_⟩
            · rw [kP_len]
              rw [sizeLine_eq]
              have e2 : fkv'.length = (fkv'.map (·.1)).length := by rw [List.length_map]
              rw [e2, ef8]
              have s1 := putNs_len (Lx.take i) (fkv.map (·.1))
              have s2 := R.sub
              have s3 := nodup_len _ _ R.nd s2
              rw [List.length_map, List.length_map] at s3
              rw [List.length_map, List.length_take] at s1
              have := ways.sz
              omega
            · refine ⟨kp8.put hD0, by rw [upd_ne nDE]; exact hE8, p8.tk (Tk.dT hf8), putK fkv' m (.int (days + 1)), _, rfl, ?_, ?_⟩
              · rw [put_kP]
                exact upd_same
              · rw [put_keys, ef8, take_more hm, List.foldl_append]
                rfl
          · rintro σ H8 ⟨kp8, hE8, p8, fkv', o1, rfl, hf8, ef8⟩
            rw [p8.length, List.take_length] at ef8
            have R' : RecB t most melts (kvs.map (·.1)) (fkv'.map (·.1)) := by
              rw [ef8, ← hN]
              exact R.step
            have len1 := nodup_len _ _ R'.nd R'.sub
            rw [List.length_map, List.length_map] at len1
            refine ⟨_, ?_, kp8, fkv', E, _, _, acc, Lx, rfl, hf8, hE8, p8, R', ?_, rfl⟩
            · by_cases hx : Lx = []
              · rw [if_pos hx]
                have : fkv'.length = fkv.length := by
                  have := congrArg List.length ef8
                  rw [hx, List.length_map] at this
                  simpa using this
                omega
              · rw [if_neg hx]
                have := R.more (by rw [hN]; exact hx)
                rw [hN, ← ef8, List.length_map, List.length_map] at this
                omega
            · intro hx m hm hn
              rw [hx] at ef8
              have ef8 : fkv'.map (·.1) = fkv.map (·.1) := ef8
              rw [ef8] at hn ⊢
              exact RecB.done (by rw [hN]; exact hx) m hm hn
      · have hL : L = [] := by simpa using hb
        have k9 := kp3.trans (Kp.new (o := .lst []) he)
        exact ⟨_, rfl, k _ _ k9 ⟨D, fkv, rfl, hD0, (Kp.new he).dT hf3, R.sub, R.base, cl hL, R.sound⟩⟩
end
end MX
end

section
set_option Elab.async false
set_option linter.all false
set_option maxRecDepth 100000
set_option maxHeartbeats 4000000
namespace MX
open PySem PySem.Spec PyProof.Rows L2
/-! ### how much there is: lists of n numbers below 2 ^ t -/
def Fit (t n : Nat) (m : List Nat) : Prop := m.length = n ∧ ∀ x ∈ m, x < 2 ^ t
theorem total_lt2 {t : Nat} {ms : List Nat} (h : ∀ m ∈ ms, m < 2 ^ t) : totalOf ms < 2 ^ t := by
  have : ∀ (ms : List Nat) (a : Nat), a < 2 ^ t → (∀ m ∈ ms, m < 2 ^ t) → ms.foldl (fun f m => f ^^^ m) a < 2 ^ t := by
    intro ms
    induction ms with
    | nil => intro a ha _; exact ha
    | cons m ms ih =>
      intro a ha hm
      exact ih _ (Nat.xor_lt_two_pow ha (hm m (by simp))) fun x hx => hm x (by simp [hx])
  exact this ms 0 (Nat.pow_pos (by decide)) h
theorem sums_lt2 {t : Nat} {ms : List Nat} (h : ∀ m ∈ ms, m < 2 ^ t) (most : Nat) : ∀ x ∈ sumsOf ms most, x < 2 ^ t := by
  intro x hx
  unfold sumsOf at hx
  rw [putNs_mem] at hx
  rcases hx with hx | hx
  · cases hx
  · obtain ⟨r, _, rfl⟩ := List.mem_map.mp hx
    refine total_lt2 fun m hm => ?_
    obtain ⟨i, _, rfl⟩ := List.mem_map.mp hm
    rw [List.getD_eq_getElem?_getD]
    cases e : ms[i]? with
    | none => exact Nat.pow_pos (by decide)
    | some m => exact h m (List.mem_of_getElem? e)
theorem sums_len2 {t : Nat} {ms : List Nat} (h : ∀ m ∈ ms, m < 2 ^ t) (most : Nat) : (sumsOf ms most).length ≤ 2 ^ t := by
  have := nodup_len _ (List.range (2 ^ t)) (sums_nodup ms most) fun x hx => List.mem_range.mpr (sums_lt2 h most x hx)
  rw [List.length_range] at this
  exact this
theorem grown_fit {t n most : Nat} {ms x : List Nat} (h : Fit t n ms) (hx : x ∈ grown most ms) : Fit t (n + 1) x := by
  unfold grown at hx
  obtain ⟨m, hm, rfl⟩ := List.mem_map.mp hx
  refine ⟨by rw [(inOrder_perm _).length_eq, List.length_append, h.1]; rfl, fun y hy => ?_⟩
  rcases List.mem_append.mp ((inOrder_perm _).mem_iff.mp hy) with h1 | h1
  · exact h.2 y h1
  · rw [List.mem_singleton.mp h1]
    exact sums_lt2 h.2 most m hm
theorem filled_fit {t n most : Nat} {f : List (List Nat)} (h : ∀ x ∈ f, Fit t n x) : ∀ i, ∀ x ∈ iter (filledStep most) i f, Fit t (n + i) x
  | 0 => h
  | i + 1 => by
    intro x hx
    unfold iter filledStep at hx
    rw [fold_mem] at hx
    rcases hx with hx | ⟨y, hy, hx⟩
    · cases hx
    · exact grown_fit (filled_fit h i y hy) hx
theorem filled_len2 {t n most : Nat} {f : List (List Nat)} (h : ∀ x ∈ f, Fit t n x) : ∀ i, (iter (filledStep most) i f).length ≤ f.length * (2 ^ t) ^ i
  | 0 => by simp [iter]
  | i + 1 => by
    have ih := filled_len2 (most := most) h i
    unfold iter filledStep
    refine Nat.le_trans (fold_len (grown most) (2 ^ t) _ _ fun x hx => by unfold grown; rw [List.length_map]; exact sums_len2 (filled_fit h i x hx).2 most) ?_
    rw [List.length_nil, Nat.zero_add, Nat.pow_succ, ← Nat.mul_assoc]
    exact Nat.mul_le_mul_right _ ih
theorem cuts_fit {t n : Nat} {m x : List Nat} (h : Fit t (n + 1) m) (hx : x ∈ cuts m) : Fit t n x := by
  unfold cuts at hx
  obtain ⟨k, hk, rfl⟩ := List.mem_map.mp hx
  have hk := List.mem_range.mp hk
  refine ⟨?_, fun y hy => ?_⟩
  · rw [List.length_append, List.length_take, List.length_drop, h.1]
    have := h.1
    omega
  · rcases List.mem_append.mp hy with h1 | h1
    · exact h.2 y (List.mem_of_mem_take h1)
    · exact h.2 y (List.mem_of_mem_drop h1)
theorem chosen_fit {t n k : Nat} {f : List (List Nat)} (h : ∀ x ∈ f, Fit t (n + k) x) : ∀ i, i ≤ k → ∀ x ∈ iter chosenStep i f, Fit t (n + (k - i)) x
  | 0, _ => h
  | i + 1, hi => by
    intro x hx
    unfold iter chosenStep at hx
    rw [fold_mem] at hx
    rcases hx with hx | ⟨y, hy, hx⟩
    · cases hx
    · have q := chosen_fit h i (by omega) y hy
      rw [show n + (k - i) = n + (k - (i + 1)) + 1 by omega] at q
      exact cuts_fit q hx
theorem chosen_len2 {t n : Nat} {f : List (List Nat)} (h : ∀ x ∈ f, x.length ≤ n) : ∀ i, (iter chosenStep i f).length ≤ f.length * n ^ i := chosen_len h
theorem ans_fit {t n most melts : Nat} {m : List Nat} (hm : melts ≤ n) (h : Fit t n m) : (ansOf t most melts m).length ≤ n ^ melts ∧ ∀ l, some l ∈ ansOf t most melts m → l.length ≤ (2 ^ t) ^ melts ∧ ∀ x ∈ l, Fit t n x := by
  have one : ∀ x ∈ [m], Fit t (n - melts + melts) x := fun x hx => by rw [List.mem_singleton.mp hx, Nat.sub_add_cancel hm]; exact h
  have cf := chosen_fit one melts (Nat.le_refl _)
  rw [Nat.sub_self] at cf
  constructor
  · unfold ansOf
    rw [List.length_map]
    unfold chosen sortL
    rw [List.length_mergeSort]
    have := chosen_len (n := n) (f := [m]) (fun x hx => by rw [List.mem_singleton.mp hx, h.1]; exact Nat.le_refl _) melts
    rw [List.length_cons, List.length_nil, Nat.zero_add, Nat.one_mul] at this
    exact this
  · intro l hl
    unfold ansOf at hl
    obtain ⟨left, h1, e⟩ := List.mem_map.mp hl
    split at e
    · cases e
      unfold chosen at h1
      rw [sort_mem] at h1
      have q := cf left h1
      have st0 : ∀ y ∈ [left], Fit t (n - melts) y := fun y hy => by rw [List.mem_singleton.mp hy]; exact q
      have f1 := filled_len2 (most := most) st0 melts
      have f2 := filled_fit (most := most) st0 melts
      unfold filled sortL
      refine ⟨?_, fun x hx => ?_⟩
      · rw [List.length_mergeSort]
        rw [List.length_cons, List.length_nil, Nat.zero_add, Nat.one_mul] at f1
        exact f1
      · have := f2 x (List.mem_mergeSort.mp hx)
        rw [Nat.sub_add_cancel hm] at this
        exact this
    · cases e
/-- all lists of n numbers below c -/
def univ (c : Nat) : Nat → List (List Nat)
  | 0 => [[]]
  | n + 1 => (List.range c).flatMap fun x => (univ c n).map (x :: ·)
theorem univ_len (c : Nat) : ∀ n, (univ c n).length = c ^ n
  | 0 => rfl
  | n + 1 => by
    unfold univ
    have : ∀ l : List Nat, (l.flatMap fun x => (univ c n).map (x :: ·)).length = l.length * c ^ n := by
      intro l
      induction l with
      | nil => simp
      | cons x l ih => rw [List.flatMap_cons, List.length_append, ih, List.length_map, univ_len c n, List.length_cons, Nat.succ_mul, Nat.add_comm]
    rw [this, List.length_range, Nat.pow_succ, Nat.mul_comm]
theorem univ_mem {c : Nat} : ∀ {n : Nat} {m : List Nat}, m.length = n → (∀ x ∈ m, x < c) → m ∈ univ c n
  | 0, m, h, _ => by rw [List.eq_nil_of_length_eq_zero h]; exact List.mem_singleton.mpr rfl
  | n + 1, [], h, _ => by cases h
  | n + 1, x :: m, h, q => by
    unfold univ
    refine List.mem_flatMap.mpr ⟨x, List.mem_range.mpr (q x (by simp)), List.mem_map.mpr ⟨m, univ_mem (by simpa using h) fun y hy => q y (by simp [hy]), rfl⟩⟩
theorem keys_le {t n : Nat} {keys : List (List Nat)} (nd : keys.Nodup) (h : ∀ m ∈ keys, Fit t n m) : keys.length ≤ (2 ^ t) ^ n := by
  rw [← univ_len]
  exact nodup_len _ _ nd fun m hm => univ_mem (h m hm).1 (h m hm).2
/-! ### what is reached -/
inductive Reach (t most melts : Nat) (first : List Nat) : List Nat → Prop where
  | first : Reach t most melts first first
  | step {m x : List Nat} {l : List (List Nat)} : Reach t most melts first m → some l ∈ ansOf t most melts m → x ∈ l → Reach t most melts first x
structure Found (t most melts : Nat) (first : List Nat) (keys : List (List Nat)) : Prop where
  fst : first ∈ keys
  closed : ∀ m ∈ keys, ∀ l, some l ∈ ansOf t most melts m → ∀ x ∈ l, x ∈ keys
  sound : ∀ m ∈ keys, Reach t most melts first m
/-- half way: L still to be looked at -/
structure Half (t most melts n : Nat) (first : List Nat) (keys L : List (List Nat)) : Prop where
  nd : keys.Nodup
  fit : ∀ m, m ∈ keys ∨ m ∈ L → Fit t n m
  fst : first ∈ keys ∨ first ∈ L
  closed : ∀ m ∈ keys, ∀ l, some l ∈ ansOf t most melts m → ∀ x ∈ l, x ∈ keys ∨ x ∈ L
  sound : ∀ m, m ∈ keys ∨ m ∈ L → Reach t most melts first m
theorem Half.done {t most melts n : Nat} {first : List Nat} {keys : List (List Nat)} (h : Half t most melts n first keys []) : Found t most melts first keys where
  fst := by
    rcases h.fst with q | q
    · exact q
    · cases q
  closed := fun m hm l hl x hx => by
    rcases h.closed m hm l hl x hx with q | q
    · exact q
    · cases q
  sound := fun m hm => h.sound m (.inl hm)
/-- a known place is passed by -/
theorem Half.skip {t most melts n : Nat} {first m : List Nat} {keys L L' : List (List Nat)} (h : Half t most melts n first keys L) (hm : m ∈ keys) (e : ∀ x, x ∈ L → x ∈ L' ∨ x = m) (e2 : ∀ x ∈ L', x ∈ L) : Half t most melts n first keys L' where
  nd := h.nd
  fit := fun x q => h.fit x (q.imp id (e2 x))
  fst := by
    rcases h.fst with q | q
    · exact .inl q
    · rcases e _ q with q | q
      · exact .inr q
      · exact .inl (q ▸ hm)
  closed := fun k hk l hl x hx => by
    rcases h.closed k hk l hl x hx with q | q
    · exact .inl q
    · rcases e _ q with q | q
      · exact .inr q
      · exact .inl (q ▸ hm)
  sound := fun x q => h.sound x (q.imp id (e2 x))
/-- a new place: what it answers is to be looked at -/
theorem Half.take {t most melts n : Nat} {first m : List Nat} {keys L L' : List (List Nat)} (hn : melts ≤ n) (h : Half t most melts n first keys L) (hm : m ∈ L) (hk : m ∉ keys) (e : ∀ x, x ∈ L → x ∈ L' ∨ x = m) (e2 : ∀ x ∈ L', x ∈ L ∨ ∃ l, some l ∈ ansOf t most melts m ∧ x ∈ l) (e3 : ∀ l, some l ∈ ansOf t most melts m → ∀ x ∈ l, x ∈ L') : Half t most melts n first (keys ++ [m]) L' where
  nd := by
    rw [List.nodup_append]
    exact ⟨h.nd, by simp, fun a ha b hb => by
      rw [List.mem_singleton.mp hb]
      rintro rfl
      exact hk ha⟩
  fit := fun x q => by
    have fm := h.fit m (.inr hm)
    rcases q with q | q
    · rcases List.mem_append.mp q with q | q
      · exact h.fit x (.inl q)
      · rw [List.mem_singleton.mp q]
        exact fm
    · rcases e2 x q with q | ⟨l, hl, hx⟩
      · exact h.fit x (.inr q)
      · exact ((ans_fit hn fm).2 l hl).2 x hx
  fst := by
    rcases h.fst with q | q
    · exact .inl (by simp [q])
    · rcases e _ q with q | q
      · exact .inr q
      · exact .inl (by simp [q])
  closed := fun k hk l hl x hx => by
    rcases List.mem_append.mp hk with hk | hk
    · rcases h.closed k hk l hl x hx with q | q
      · exact .inl (by simp [q])
      · rcases e _ q with q | q
        · exact .inr q
        · exact .inl (by simp [q])
    · rw [List.mem_singleton.mp hk] at hl
      exact .inr (e3 l hl x hx)
  sound := fun x q => by
    have fm := h.sound m (.inr hm)
    rcases q with q | q
    · rcases List.mem_append.mp q with q | q
      · exact h.sound x (.inl q)
      · rw [List.mem_singleton.mp q]
        exact fm
    · rcases e2 x q with q | ⟨l, hl, hx⟩
      · exact h.sound x (.inr q)
      · exact .step fm hl hx
end MX
end

section
set_option Elab.async false
set_option linter.all false
set_option maxRecDepth 100000
set_option maxHeartbeats 4000000
namespace MX
open PySem PySem.Spec PyProof.Rows L2
/-- all that is answered, in a row -/
def flatO (os : List (Option (List (List Nat)))) : List (List Nat) := os.flatMap fun o => o.getD []
theorem flatO_mem {os : List (Option (List (List Nat)))} {x : List Nat} : x ∈ flatO os ↔ ∃ l, some l ∈ os ∧ x ∈ l := by
  unfold flatO
  rw [List.mem_flatMap]
  constructor
  · rintro ⟨o, ho, hx⟩
    cases o with
    | none => cases hx
    | some l => exact ⟨l, ho, hx⟩
  · rintro ⟨l, hl, hx⟩
    exact ⟨_, hl, hx⟩
theorem flatO_len {os : List (Option (List (List Nat)))} {c : Nat} (h : ∀ l, some l ∈ os → l.length ≤ c) : (flatO os).length ≤ os.length * c := by
  refine flat_len _ c os fun o ho => ?_
  cases o with
  | none => exact Nat.zero_le _
  | some l => exact h l ho
theorem put_new {kvs : List (List Nat × V)} {k : List Nat} {v : V} (h : k ∉ kvs.map (·.1)) : putK kvs k v = kvs ++ [(k, v)] := by
  unfold putK
  rw [valV_any, val_mem, if_neg (by rw [decide_eq_false h]; decide)]
section
variable {P : Program} {w : World} {K : PySem.W.Frag} {mg : Str → Option Value} {base : Heap} {f c C : Addr} {fd : FuncData}
abbrev st_find : Stmt := inClass (topS 32) 2
abbrev N_find : List Str := ["self", "first", "layer", "later", "masks", "answers"]
theorem sc_find : FnScope N_find ["self", "first"] (defScope st_find) := ⟨rfl, rfl, rfl, by decide +kernel, rfl, by decide +kernel, by decide +kernel⟩
def sp_find (C : Addr) : Sp := fun vs H Q _ => vs.length = 2 ∧ ∃ (t most melts : Nat) (W : Addr) (x : List Nat) (v u : V), vs = [v, u] ∧ FlAt H C v (fsW t most melts W) ∧ IT H u x ∧ H W = some (.dT []) ∧ Fit t x.length x ∧ t ≤ 3 ∧ melts ≤ 3 ∧ x.length ≤ 6 ∧ melts ≤ x.length ∧ (2 ^ t) ^ x.length * (x.length ^ melts * (2 ^ t) ^ melts) ≤ 10000000 ∧
  ∀ H' kvs, Kp (off W H) H' → H' W = some (.dT (kP kvs)) → WaysR t most melts W H' kvs → Found t most melts x (kvs.map (·.1)) → (∀ m ∈ kvs.map (·.1), Fit t x.length m) → Q .non H'
theorem cal_find (FC : FlC K C) (F : MthC K C "find" "Flood.find" st_find f fd c) (B : Bi mg) (M_answers : MCal P w K mg base C 6 "answers" ["self", "masks"] (sp_answers C)) : MCal P w K mg base C 7 "find" ["self", "first"] (sp_find C) := by
  refine F.cal sc_find (fun _ _ _ _ h => h.1) (fun _ _ _ _ _ _ us hl => match us, hl with | [_, _], _ => rfl) (fun A outer s H vs Q hr h => ?_) (fun _ _ _ _ h => h)
  refine ⟨_, (pss_cons (ps_set (i := 2) sc_find.nd rfl (Or.inl rfl) (pe_lst (pa_cons (pv 1) pa_nil)))
  (pss_one (ps_while PassesOwn.never (pt_cmpR (op_neDK K (hu := hr.units)) (pv 2) (pe_lst pa_nil) (nomark _)) (pss_cons (ps_set (i := 3) sc_find.nd rfl (Or.inl rfl) (pe_lst pa_nil))
  (pss_cons (ps_for PassesOwn.never rfl (pi_listK K (hl := (pv 2))) (pg_name (i := 4) sc_find.nd rfl (by first | exact Or.inl rfl | exact Or.inr rfl)) (pss_one (ps_if (pt_cmp (pc_dnotin (hu_of hr) (pv 4) (pe_fldK K (he := (pv 0))))) (pss_cons (ps_dput (hu_of hr) (pe_fldK K (he := (pv 0))) (pv 4) (pe_mcal M_answers hr (by decide) (pv 0) (pa_cons (pv 4) pa_nil)) (by rfl))
  (pss_one (ps_for PassesOwn.never rfl (pi_listK K (hl := (pe_dget (hu_of hr) (pe_fldK K (he := (pv 0))) (pv 4) (fun _ _ => rfl)))) (pg_name (i := 5) sc_find.nd rfl (by first | exact Or.inl rfl | exact Or.inr rfl)) (pss_one (ps_aug (i := 3) sc_find.nd rfl (Or.inl rfl) (pe_ifExp (pt_cmpR op_notN (pv 5) pe_non (nomark _)) (pv 5) (pe_lst pa_nil)) iop_ext))))) pss_nil)))
  (pss_one (ps_set (i := 2) sc_find.nd rfl (Or.inl rfl) (pv 3)))))))), ?_⟩
  obtain ⟨_, t, most, melts, W, x, v, u, rfl, ⟨a, dx, rfl, ea⟩, it, eW, fx, t3, m3, n6, hmn, cap, k⟩ := h
  have naW : a ≠ W := by
    rintro rfl
    rw [ea] at eW
    cases eW
  have look : ∀ {H' : Hp}, Kp (off W H) H' → H' a = some (.ins C dx (fsW t most melts W)) := fun k' => k'.ins (by rw [off_ne naW]; exact ea)
  generalize hn : x.length = n at *
  generalize hB : n ^ melts * (2 ^ t) ^ melts = Bd at *
  have p2 : 0 < (2 ^ t) ^ n := Nat.pow_pos (Nat.pow_pos (by decide))
  have t8 : 2 ^ t ≤ 8 := Nat.le_trans (Nat.pow_le_pow_right (by decide) t3) (by decide)
  refine ⟨_, rfl, by show 1 ≤ sizeLine; decide, fun d0 hd0 => ?_⟩
  have nW0 : d0 ≠ W := by
    rintro rfl
    rw [eW] at hd0
    cases hd0
  -- the word of the outer loop
  refine while_m (fun μ σ H' => Kp (off W H) H' ∧ ∃ kvs lay o3 o4 o5 vs L, σ = [some (.ref a), some u, some (.ref lay), o3, o4, o5] ∧ H' W = some (.dT (kP kvs)) ∧ (∀ p ∈ kvs, AnsL (off W H') p.2 (ansOf t most melts p.1)) ∧ H' lay = some (.lst vs) ∧ ITs H' vs L ∧ Half t most melts n x (kvs.map (·.1)) L ∧ μ = 2 * ((2 ^ t) ^ n - kvs.length) + if L = [] then 0 else 1) ⟨_, (kp_off H).put (by rw [off_ne nW0]; exact hd0), [], d0, _, _, _, [u], [x], rfl, by rw [upd_ne (Ne.symm nW0)]; exact eW, (by intro p hp; cases hp), upd_same, .cons (it.tk (Tk.new hd0)) .nil, ?_, rfl⟩ ?_
  · exact ⟨List.nodup_nil, fun m q => by
      rcases q with q | q
      · cases q
      · rw [List.mem_singleton.mp q]
        exact fx, .inr (by simp), (by intro m hm; cases hm), fun m q => by
      rcases q with q | q
      · cases q
      · rw [List.mem_singleton.mp q]
        exact .first⟩
  · rintro μ σ H1 ⟨kp1, kvs, lay, o3, o4, o5, vs, L, rfl, eW1, an1, el, itL, half, rfl⟩
    refine ⟨_, rfl, Nat.zero_le _, fun e he => ne_nil (a := lay) (b := e) (by rw [upd_ne (ne_of_none el he)]; exact el) (itL.tk (Tk.new he)) upd_same ⟨_, rfl, ite_b (fun hb => ⟨_, fun _ _ h => h, ?_⟩) fun hb => ?_⟩⟩
    · have hL : L ≠ [] := by
        rintro rfl
        cases hb
      rw [if_neg hL]
      have k1e : Kp H1 (upd H1 e (.lst [])) := Kp.new he
      have kpe := kp1.trans k1e
      have eWe := k1e.dT eW1
      have ele := k1e.lst el
      have itLe : ITs (upd H1 e (.lst [])) vs L := itL.tk k1e.tk
      have ane : ∀ p ∈ kvs, AnsL (off W (upd H1 e (.lst []))) p.2 (ansOf t most melts p.1) := fun p hp => (an1 p hp).kp (off_kp k1e)
      generalize upd H1 e (.lst []) = He at *
      refine ⟨Nat.zero_le _, fun lat hlat => ?_⟩
      have nlW : W ≠ lat := ne_of_none eWe hlat
      have nll : lay ≠ lat := ne_of_none ele hlat
      have hlat0 : off W H lat = none := kpe.free hlat
      have kL : Kp He (upd He lat (.lst [])) := Kp.new hlat
      refine ⟨_, rfl, lay, rfl, ⟨_, SqL.of (kL.lst ele)⟩, for_list (K := K) (a := lay) (xs := vs) (fun i σ H' => Kp (off W H) H' ∧ H' lay = some (.lst vs) ∧ ITs H' vs L ∧ ∃ kvs' ls L2 o4 o5, σ = [some (.ref a), some u, some (.ref lay), some (.ref lat), o4, o5] ∧ H' W = some (.dT (kP kvs')) ∧ (∀ p ∈ kvs', AnsL (off lat (off W H')) p.2 (ansOf t most melts p.1)) ∧ H' lat = some (.lst ls) ∧ ITs H' ls L2 ∧ Half t most melts n x (kvs'.map (·.1)) (L.drop i ++ L2) ∧ kvs.length ≤ kvs'.length ∧ L2.length ≤ (kvs'.length - kvs.length) * Bd) ⟨kpe.trans kL, kL.lst ele, itLe.tk kL.tk, kvs, [], [], _, _, rfl, kL.dT eWe, fun p hp => ?_, upd_same, .nil, by rw [List.drop_zero, List.append_nil]; exact half, Nat.le_refl _, Nat.zero_le _⟩ (fun i σ H' _ I => SqL.of I.2.1) ?_ ?_⟩
      · refine (ane p hp).kp ?_
        have e1 : off lat (off W (upd He lat (.lst []))) = off W He := by
          funext b
          unfold off
          by_cases z : b = lat
          · subst z
            rw [if_pos rfl]
            split
            · rfl
            · exact hlat.symm
          · rw [if_neg z, upd_ne z]
        rw [e1]
        exact Kp.refl _
      · rintro i y σ H' hy ⟨kp', el', itL', kvs', ls, L2, o4, o5, rfl, eW', an', elat, itl, half', kl, l2⟩
        obtain ⟨m, hm, itm⟩ := Paired.at' itL' hy
        have dm : L.drop i = m :: L.drop (i + 1) := by
          obtain ⟨hi, e⟩ := List.getElem?_eq_some_iff.mp hm
          rw [List.drop_eq_getElem_cons hi, e]
        have klen := keys_le half'.nd fun m hm => half'.fit m (.inl hm)
        rw [List.length_map] at klen
        have fm : Fit t n m := half'.fit m (.inr (by rw [dm]; simp))
        refine ⟨_, rfl, _, rfl, a, C, dx, _, .ref W, rfl, look kp', FC.cl, FC.ways, rfl, W, _, rfl, DR.get (.inl eW') itm, ⟨_, rfl, ?_⟩⟩
        rw [val_mem]
        refine ite_b (fun hn => ?_) fun hn => ?_
        · have hk : m ∉ kvs'.map (·.1) := by simpa using hn
          refine ⟨_, rfl, a, dx, _, rfl, look kp', rfl, _, rfl, rfl, ((t, most, melts), W, m), ⟨_, _, rfl, ⟨a, dx, rfl, look kp'⟩, itm, t3, m3, (by show m.length ≤ 6; rw [fm.1]; exact n6), fun y hy => Nat.lt_of_lt_of_le (fm.2 y hy) t8⟩, ?_⟩
          rintro _ H3 k3 ⟨q, ws, rfl, hq0, hq, pr⟩
          dsimp only at pr
          have kp3 := kp'.trans k3
          have itm3 := itm.kp k3
          obtain ⟨b, rfl, hb3⟩ := itm3.key
          have nqW : q ≠ W := by
            rintro rfl
            rw [eW'] at hq0
            cases hq0
          have nqlat : q ≠ lat := by
            rintro rfl
            rw [elat] at hq0
            cases hq0
          have nqlay : q ≠ lay := by
            rintro rfl
            rw [el'] at hq0
            cases hq0
          refine ⟨_, rfl, a, C, dx, _, .ref W, rfl, look kp3, FC.cl, FC.ways, rfl, _, rfl, W, _, rfl, DPut.t (k3.dT eW') hb3 ?_, ?_⟩
          · rw [kP_len]
            refine sl (Nat.le_trans klen (Nat.le_trans (Nat.pow_le_pow_left t8 n) (Nat.le_trans (Nat.pow_le_pow_right (by decide) n6) (by decide))))
          rw [put_kP, put_new hk]
          have kp4 : Kp (off W H) (upd H3 W (.dT (kP (kvs' ++ [(m, .ref q)])))) := kp3.put off_same
          have eo : off W (upd H3 W (.dT (kP (kvs' ++ [(m, .ref q)])))) = off W H3 := off_upd
          have tk4 : Tk H3 (upd H3 W (.dT (kP (kvs' ++ [(m, .ref q)])))) := Tk.dT (k3.dT eW')
          have eW4 : upd H3 W (.dT (kP (kvs' ++ [(m, .ref q)]))) W = some (.dT (kP (kvs' ++ [(m, .ref q)]))) := upd_same
          have hq4 : upd H3 W (.dT (kP (kvs' ++ [(m, .ref q)]))) q = some (.lst ws) := by rw [upd_ne nqW]; exact hq
          have el4 : upd H3 W (.dT (kP (kvs' ++ [(m, .ref q)]))) lay = some (.lst vs) := by rw [upd_ne (ne_of_none ele hlat |> fun _ => by rintro rfl; rw [eW'] at el'; cases el')]; exact k3.lst el'
          have elat4 : upd H3 W (.dT (kP (kvs' ++ [(m, .ref q)]))) lat = some (.lst ls) := by rw [upd_ne (Ne.symm nlW)]; exact k3.lst elat
          have pr4 : Paired (AnsV (off lat (off W H3))) ws (ansOf t most melts m) := by
            refine Paired.mono (fun v o i => i.kp (nu_to fun b o e h0 => ?_)) pr
            obtain ⟨e1, nb⟩ := off_le e
            have n1 : b ≠ lat := by
              rintro rfl
              rcases h0 with h0 | ⟨xs, h0⟩ <;> rw [elat] at h0 <;> cases h0
            have n2 : b ≠ W := by
              rintro rfl
              rcases h0 with h0 | ⟨xs, h0⟩ <;> rw [eW'] at h0 <;> cases h0
            rw [off_ne n1, off_ne n2]
            exact e1
          have an4 : ∀ p ∈ kvs' ++ [(m, V.ref q)], AnsL (off lat (off W (upd H3 W (.dT (kP (kvs' ++ [(m, .ref q)])))))) p.2 (ansOf t most melts p.1) := by
            intro p hp
            rw [eo]
            rcases List.mem_append.mp hp with hp | hp
            · exact (an' p hp).kp (off_kp (off_kp k3))
            · rw [List.mem_singleton.mp hp]
              exact ⟨q, ws, rfl, by rw [off_ne nqlat, off_ne nqW]; exact hq, pr4⟩
          have itL4 : ITs (upd H3 W (.dT (kP (kvs' ++ [(m, .ref q)])))) vs L := (itL'.tk k3.tk).tk tk4
          have itl4 : ITs (upd H3 W (.dT (kP (kvs' ++ [(m, .ref q)])))) ls L2 := (itl.tk k3.tk).tk tk4
          have itm4 : IT (upd H3 W (.dT (kP (kvs' ++ [(m, .ref q)])))) (.ref b) m := itm3.tk tk4
          rw [← eo] at pr4
          generalize upd H3 W (.dT (kP (kvs' ++ [(m, .ref q)]))) = H4 at *
          have vq : valV (kvs' ++ [(m, V.ref q)]) m = some (.ref q) := val_at (by
            rw [List.map_append, List.nodup_append]
            exact ⟨half'.nd, by simp, fun a ha b hb => by
              rw [List.mem_singleton.mp hb]
              rintro rfl
              exact hk ha⟩) (by simp)
          obtain ⟨cA, cB⟩ := ans_fit (most := most) hmn fm
          generalize hos : ansOf t most melts m = os at *
          have fl : ∀ j, (flatO (os.take j)).length ≤ Bd := fun j => by
            refine Nat.le_trans (flatO_len (c := (2 ^ t) ^ melts) fun l hl => (cB l (List.mem_of_mem_take hl)).1) ?_
            rw [← hB]
            exact Nat.mul_le_mul_right _ (Nat.le_trans (by rw [List.length_take]; omega) cA)
          have room : L2.length + Bd ≤ 10000000 := by
            refine Nat.le_trans ?_ cap
            have k2 : kvs'.length + 1 ≤ (2 ^ t) ^ n := by
              have := keys_le (keys := kvs'.map (·.1) ++ [m]) (by
                rw [List.nodup_append]
                exact ⟨half'.nd, by simp, fun a ha b hb => by
                  rw [List.mem_singleton.mp hb]
                  rintro rfl
                  exact hk ha⟩) fun y hy => by
                rcases List.mem_append.mp hy with hy | hy
                · exact half'.fit y (.inl hy)
                · rw [List.mem_singleton.mp hy]
                  exact fm
              rw [List.length_append, List.length_map] at this
              exact this
            calc L2.length + Bd ≤ (kvs'.length - kvs.length) * Bd + Bd := by omega
              _ = (kvs'.length - kvs.length + 1) * Bd := by rw [Nat.succ_mul]
              _ ≤ (2 ^ t) ^ n * Bd := Nat.mul_le_mul_right _ (by omega)
          refine ⟨_, rfl, a, C, dx, _, .ref W, rfl, look kp4, FC.cl, FC.ways, rfl, _, rfl, W, .ref q, rfl, by rw [← vq]; exact DR.get (.inl eW4) itm4, ?_⟩
          refine ⟨q, rfl, ⟨_, SqL.of hq4⟩, for_list (K := K) (a := q) (xs := ws) (fun j σ H' => Kp (off W H) H' ∧ H' lay = some (.lst vs) ∧ ITs H' vs L ∧ H' q = some (.lst ws) ∧ Paired (AnsV (off lat (off W H'))) ws os ∧ (∃ o5, σ = [some (.ref a), some u, some (.ref lay), some (.ref lat), some (.ref b), o5]) ∧ H' W = some (.dT (kP (kvs' ++ [(m, .ref q)]))) ∧ (∀ p ∈ kvs' ++ [(m, V.ref q)], AnsL (off lat (off W H')) p.2 (ansOf t most melts p.1)) ∧ ∃ ls, H' lat = some (.lst ls) ∧ ITs H' ls (L2 ++ flatO (os.take j))) ⟨kp4, el4, itL4, hq4, pr4, ⟨_, rfl⟩, eW4, an4, ls, elat4, by rw [show flatO (os.take 0) = [] from rfl, List.append_nil]; exact itl4⟩ (fun i σ H' _ I => SqL.of I.2.2.2.1) ?_ ?_⟩
          · rintro j z σ H5 hz ⟨kp5, el5, itL5, hq5, pr5, ⟨o5, rfl⟩, eW5, an5, ls5, elat5, itl5⟩
            obtain ⟨o, ho, av⟩ := Paired.at' pr5 hz
            have fj : flatO (os.take (j + 1)) = flatO (os.take j) ++ o.getD [] := by
              rw [take_more ho]
              unfold flatO
              rw [List.flatMap_append]
              simp
            have ll : ls5.length = L2.length + (flatO (os.take j)).length := by rw [itl5.length, List.length_append]
            have fin : ∀ H6 zs, Kp H5 H6 → ITs H6 zs (o.getD []) → Kp (off W H) (upd H6 lat (.lst (ls5 ++ zs))) ∧ upd H6 lat (.lst (ls5 ++ zs)) lay = some (.lst vs) ∧ ITs (upd H6 lat (.lst (ls5 ++ zs))) vs L ∧ upd H6 lat (.lst (ls5 ++ zs)) q = some (.lst ws) ∧ Paired (AnsV (off lat (off W (upd H6 lat (.lst (ls5 ++ zs)))))) ws os ∧ (∃ o5, [some (.ref a), some u, some (.ref lay), some (.ref lat), some (.ref b), some z] = [some (.ref a), some u, some (.ref lay), some (.ref lat), some (.ref b), o5]) ∧ upd H6 lat (.lst (ls5 ++ zs)) W = some (.dT (kP (kvs' ++ [(m, .ref q)]))) ∧ (∀ p ∈ kvs' ++ [(m, V.ref q)], AnsL (off lat (off W (upd H6 lat (.lst (ls5 ++ zs))))) p.2 (ansOf t most melts p.1)) ∧ ∃ ls, upd H6 lat (.lst (ls5 ++ zs)) lat = some (.lst ls) ∧ ITs (upd H6 lat (.lst (ls5 ++ zs))) ls (L2 ++ flatO (os.take (j + 1))) := by
              intro H6 zs k6 iz
              have t6 : Tk H6 (upd H6 lat (.lst (ls5 ++ zs))) := Tk.lst (k6.lst elat5)
              have eo6 : Kp (off lat (off W H5)) (off lat (off W (upd H6 lat (.lst (ls5 ++ zs))))) := by
                have e1 : off lat (off W (upd H6 lat (.lst (ls5 ++ zs)))) = off lat (off W H6) := by
                  funext b
                  unfold off
                  by_cases z : b = lat
                  · rw [if_pos z, if_pos z]
                  · rw [if_neg z, if_neg z, upd_ne z]
                rw [e1]
                exact off_kp (off_kp k6)
              refine ⟨(kp5.trans k6).put hlat0, by rw [upd_ne nll]; exact k6.lst el5, (itL5.tk k6.tk).tk t6, by rw [upd_ne nqlat]; exact k6.lst hq5, Paired.mono (fun _ _ i => i.kp eo6) pr5, ⟨_, rfl⟩, by rw [upd_ne nlW]; exact k6.dT eW5, fun p hp => (an5 p hp).kp eo6, _, upd_same, ?_⟩
              rw [fj, ← List.append_assoc]
              exact Paired.app ((itl5.tk k6.tk).tk t6) (iz.tk t6)
            have size : ∀ zs : List V, zs.length = (o.getD []).length → ls5.length + zs.length ≤ sizeLine := by
              intro zs hz
              have := fl (j + 1)
              rw [fj, List.length_append] at this
              rw [sizeLine_eq, ll, hz]
              omega
            cases o with
            | none =>
              cases av
              refine ⟨_, rfl, _, rfl, rfl, _, rfl, ifF rfl ⟨Nat.zero_le _, fun e2 he2 => ?_⟩⟩
              exact ⟨lat, e2, ls5, [], rfl, rfl, (Kp.new he2).lst elat5, upd_same, size [] rfl, fin _ [] (Kp.new he2) .nil⟩
            | some l =>
              obtain ⟨bb, zs, rfl, eb, iz⟩ := av
              have eb1 := (off_le (off_le eb).1).1
              have iz5 : ITs H5 zs l := Paired.mono (fun _ _ i => (IT.kp i (kp_off _)).kp (kp_off _)) iz
              exact ⟨_, rfl, _, rfl, rfl, _, rfl, ifT rfl ⟨_, rfl, lat, bb, ls5, zs, rfl, rfl, elat5, eb1, size zs iz5.length, fin _ zs (Kp.refl _) iz5⟩⟩
          · rintro σ H5 ⟨kp5, el5, itL5, hq5, pr5, ⟨o5, rfl⟩, eW5, an5, ls5, elat5, itl5⟩
            rw [pr5.length, List.take_length] at itl5
            refine ⟨kp5, el5, itL5, _, ls5, _, _, _, rfl, eW5, an5, elat5, itl5, ?_, ?_, ?_⟩
            · rw [List.map_append]
              refine half'.take hmn (by rw [dm]; simp) hk (fun y hy => ?_) (fun y hy => ?_) (fun l hl y hy => ?_)
              · rw [dm] at hy
                rcases List.mem_append.mp hy with hy | hy
                · rcases List.mem_cons.mp hy with hy | hy
                  · exact .inr hy
                  · exact .inl (by simp [hy])
                · exact .inl (by simp [hy])
              · rw [hos]
                rw [dm]
                rcases List.mem_append.mp hy with hy | hy
                · exact .inl (by simp [hy])
                · rcases List.mem_append.mp hy with hy | hy
                  · exact .inl (by simp [hy])
                  · exact .inr (flatO_mem.mp hy)
              · rw [hos] at hl
                have := flatO_mem.mpr ⟨l, hl, hy⟩
                simp [this]
            · rw [List.length_append]
              exact Nat.le_trans kl (Nat.le_add_right _ _)
            · have := fl os.length
              rw [List.take_length] at this
              rw [List.length_append, List.length_append, List.length_singleton, show kvs'.length + 1 - kvs.length = kvs'.length - kvs.length + 1 by omega, Nat.succ_mul]
              omega
        · have hk : m ∈ kvs'.map (·.1) := by simpa using hn
          refine ⟨kp', el', itL', kvs', ls, L2, _, _, rfl, eW', an', elat, itl, half'.skip hk (fun y hy => ?_) (fun y hy => ?_), kl, l2⟩
          · rw [dm] at hy
            rcases List.mem_append.mp hy with hy | hy
            · rcases List.mem_cons.mp hy with hy | hy
              · exact .inr hy
              · exact .inl (by simp [hy])
            · exact .inl (by simp [hy])
          · rw [dm]
            rcases List.mem_append.mp hy with hy | hy
            · simp [hy]
            · simp [hy]
      · rintro σ H' ⟨kp', el', itL', kvs', ls, L2, o4, o5, rfl, eW', an', elat, itl, half', kl, l2⟩
        rw [itL'.length, List.drop_length, List.nil_append] at half'
        have klen := keys_le half'.nd fun m hm => half'.fit m (.inl hm)
        rw [List.length_map] at klen
        refine ⟨_, rfl, _, ?_, kp', kvs', lat, _, _, _, ls, L2, rfl, eW', fun p hp => (an' p hp).kp (kp_off _), elat, itl, half', rfl⟩
        by_cases z : L2 = []
        · rw [if_pos z]
          omega
        · rw [if_neg z]
          have : 0 < L2.length := List.length_pos_iff.mpr z
          have : kvs.length < kvs'.length := by
            refine Nat.lt_of_not_le fun h => ?_
            rw [Nat.sub_eq_zero_of_le h, Nat.zero_mul] at l2
            omega
          omega
    · have hL : L = [] := by simpa using hb
      subst hL
      have k9 := kp1.trans (Kp.new (o := .lst []) he)
      have k1e : Kp H1 (upd H1 e (.lst [])) := Kp.new he
      refine k _ kvs k9 (k1e.dT eW1) ⟨half.nd, ?_, fun m hm => ?_, fun p hp => (an1 p hp).kp (off_kp k1e)⟩ half.done fun m hm => half.fit m (.inl hm)
      · have := keys_le half.nd fun m hm => half.fit m (.inl hm)
        rw [List.length_map] at this
        refine Nat.le_trans this (Nat.le_trans (Nat.pow_le_pow_left t8 n) (Nat.le_trans (Nat.pow_le_pow_right (by decide) n6) (by decide)))
      · have q := half.fit m (.inl hm)
        exact ⟨by rw [q.1]; exact n6, fun y hy => Nat.lt_of_lt_of_le (q.2 y hy) t8⟩
end
end MX
end

section
set_option Elab.async false
set_option linter.all false
set_option maxRecDepth 100000
set_option maxHeartbeats 4000000
namespace MX
open PySem PySem.Spec PyProof.Rows L2
/-! ### rows and masks -/
theorem row_is {t : Nat} (ht : t ≤ 3) {r : List Nat} (h : rowB t r = true) : ∃ m, m < 2 ^ t ∧ r = tabletOf m := by
  unfold rowB at h
  rw [Bool.and_eq_true] at h
  obtain ⟨h1, h2⟩ := h
  have lt : ∀ x ∈ r, x < t := fun x hx => by simpa using List.all_eq_true.mp h1 x hx
  have up := ascB_iff.mp h2
  have p : t = 0 ∨ t = 1 ∨ t = 2 ∨ t = 3 := by omega
  match r, lt, up with
  | [], _, _ => exact ⟨0, Nat.pow_pos (by decide), by decide⟩
  | [a], lt, _ =>
    have := lt a (by simp)
    rcases p with rfl | rfl | rfl | rfl
    · omega
    · obtain rfl : a = 0 := by omega
      exact ⟨1, by decide, by decide⟩
    · rcases (show a = 0 ∨ a = 1 by omega) with rfl | rfl
      · exact ⟨1, by decide, by decide⟩
      · exact ⟨2, by decide, by decide⟩
    · rcases (show a = 0 ∨ a = 1 ∨ a = 2 by omega) with rfl | rfl | rfl
      · exact ⟨1, by decide, by decide⟩
      · exact ⟨2, by decide, by decide⟩
      · exact ⟨4, by decide, by decide⟩
  | [a, b], lt, up =>
    have l1 := lt a (by simp)
    have l2 := lt b (by simp)
    have u1 : a < b := up 0 (by simp)
    rcases p with rfl | rfl | rfl | rfl
    · omega
    · omega
    · obtain ⟨rfl, rfl⟩ : a = 0 ∧ b = 1 := by omega
      exact ⟨3, by decide, by decide⟩
    · rcases (show (a = 0 ∧ b = 1) ∨ (a = 0 ∧ b = 2) ∨ (a = 1 ∧ b = 2) by omega) with ⟨rfl, rfl⟩ | ⟨rfl, rfl⟩ | ⟨rfl, rfl⟩
      · exact ⟨3, by decide, by decide⟩
      · exact ⟨5, by decide, by decide⟩
      · exact ⟨6, by decide, by decide⟩
  | [a, b, c], lt, up =>
    have l1 := lt c (by simp)
    have u1 : a < b := up 0 (by simp)
    have u2 : b < c := up 1 (by simp)
    rcases p with rfl | rfl | rfl | rfl
    · omega
    · omega
    · omega
    · obtain ⟨rfl, rfl, rfl⟩ : a = 0 ∧ b = 1 ∧ c = 2 := by omega
      exact ⟨7, by decide, by decide⟩
  | a :: b :: c :: d :: r, lt, up =>
    have l1 := lt d (by simp)
    have u1 : a < b := up 0 (by simp)
    have u2 : b < c := up 1 (by simp)
    have u3 : c < d := up 2 (by simp)
    omega
theorem mask_tab : ∀ m, m < 8 → maskOf (tabletOf m) = m := by decide
theorem row_mask {t : Nat} (ht : t ≤ 3) {r : List Nat} (h : rowB t r = true) : maskOf r < 2 ^ t ∧ tabletOf (maskOf r) = r ∧ Sml r := by
  obtain ⟨m, hm, rfl⟩ := row_is ht h
  have m8 : m < 8 := Nat.lt_of_lt_of_le hm (Nat.le_trans (Nat.pow_le_pow_right (by decide) ht) (by decide))
  rw [mask_tab m m8]
  refine ⟨hm, rfl, ?_, fun k hk => ?_⟩
  · have := List.length_filter_le (fun t => (m >>> t) &&& 1 != 0) (List.range 3)
    rw [List.length_range] at this
    exact Nat.le_trans this (by decide)
  · have := List.mem_range.mp (List.mem_filter.mp hk).1
    omega
theorem lib_fit {t : Nat} {l : List (List Nat)} (g : LibGood t l) : Fit t l.length (l.map maskOf) := by
  refine ⟨List.length_map _, fun x hx => ?_⟩
  obtain ⟨r, hr, rfl⟩ := List.mem_map.mp hx
  exact (row_mask g.t3 (g.row r hr)).1
theorem lib_ok {t : Nat} {l : List (List Nat)} (g : LibGood t l) : LibOk l := ⟨by have := g.l6; omega, fun r hr => (row_mask g.t3 (g.row r hr)).2.2⟩
theorem order_fit {t n : Nat} {m : List Nat} (h : Fit t n m) : Fit t n (inOrder m) := ⟨by rw [(inOrder_perm m).length_eq]; exact h.1, fun x hx => h.2 x ((inOrder_perm m).mem_iff.mp hx)⟩
theorem ans_off {H : Hp} {D : Addr} {v : V} {os : List (Option (List (List Nat)))} (h : AnsL H v os) (n1 : ∀ xs, H D ≠ some (.lst xs)) (n2 : ∀ xs, H D ≠ some (.tup xs)) : AnsL (off D H) v os := by
  obtain ⟨a, vs, rfl, e, p⟩ := h
  refine ⟨a, vs, rfl, ?_, Paired.mono (fun v o i => ?_) p⟩
  · rw [off_ne]
    · exact e
    · rintro rfl
      exact n1 _ e
  · cases o with
    | none => exact i
    | some l =>
      obtain ⟨b, ws, rfl, e, q⟩ := i
      refine ⟨b, ws, rfl, ?_, its_off q n2⟩
      rw [off_ne]
      · exact e
      · rintro rfl
        exact n1 _ e
theorem off_two {W a : Addr} {H : Hp} {o : HO} : Kp (off a (off W H)) (off W (upd H a o)) := by
  have : ∀ b u, off a (off W H) b = some u → off W (upd H a o) b = some u := fun b u e => by
    obtain ⟨e1, n1⟩ := off_le e
    obtain ⟨e2, n2⟩ := off_le e1
    rw [off_ne n2, upd_ne n1]
    exact e2
  exact ⟨fun b u e _ => this b u e, fun b ps e => ⟨#[], by rw [this b _ e]; simp, fun h => by simpa using h⟩⟩
theorem putF_lt {f : Str} {v : V} : ∀ {fs : List (Str × V)} {k : Nat}, fs.length < k → (putF f v fs).length < k + 1
  | [], k, h => by
    unfold putF
    rw [List.length_singleton]
    rw [List.length_nil] at h
    omega
  | (g, x) :: r, k, h => by
    unfold putF
    rw [List.length_cons] at h
    split
    · rw [List.length_cons]
      omega
    · rw [List.length_cons]
      have := putF_lt (f := f) (v := v) (fs := r) (k := k - 1) (by omega)
      omega
def fsX (t most melts : Nat) (W N : Addr) : List (Str × V) := [("texts", nV t), ("most", nV most), ("melts", nV melts), ("ways", .ref W), ("within", .ref N)]
theorem fsW_is (t most melts : Nat) (W : Addr) : putF "ways" (.ref W) (putF "melts" (nV melts) (putF "most" (nV most) (putF "texts" (nV t) []))) = fsW t most melts W := rfl
theorem fsX_is (t most melts : Nat) (W N : Addr) : putF "within" (.ref N) (fsW t most melts W) = fsX t most melts W N := rfl
theorem kp_to_off {W : Addr} {X Y : Hp} (k : Kp X Y) (h : X W = none) : Kp X (off W Y) := by
  constructor
  · intro b o e n
    rw [off_ne (ne_of_none e h)]
    exact k.1 b o e n
  · intro b ps e
    obtain ⟨m, q⟩ := k.2 b ps e
    exact ⟨m, by rw [off_ne (ne_of_none e h)]; exact q⟩
theorem kp_of_off {p : Addr} {X Y : Hp} {o : HO} (h : X p = none) (k : Kp (off p (upd X p o)) Y) : Kp X Y := by
  rw [off_upd] at k
  exact (kp_to_off (Kp.refl X) h).trans k
/-- an instance of Flood that is ready -/
def FloodIs (C : Addr) (H : Hp) (v : V) (t most melts n : Nat) (first : List Nat) : Prop := ∃ a dx W N kvs fkv, v = .ref a ∧ H a = some (.ins C dx (fsX t most melts W N)) ∧ H W = some (.dT (kP kvs)) ∧ WaysR t most melts W H kvs ∧ Found t most melts first (kvs.map (·.1)) ∧ (∀ m ∈ kvs.map (·.1), Fit t n m) ∧ H N = some (.dT (kP fkv)) ∧ Reckoned t most melts (kvs.map (·.1)) (fkv.map (·.1))
section
variable {P : Program} {w : World} {K : PySem.W.Frag} {mg : Str → Option Value} {base : Heap} {f c C : Addr} {fd : FuncData}
abbrev st_init : Stmt := inClass (topS 32) 0
abbrev N_init : List Str := ["self", "texts", "masks", "most", "melts"]
theorem sc_init : FnScope N_init ["self", "texts", "masks", "most", "melts"] (defScope st_init) := ⟨rfl, rfl, rfl, by decide +kernel, rfl, by decide +kernel, by decide +kernel⟩
def sp_init (C : Addr) : Sp := fun vs H Q _ => vs.length = 5 ∧ ∃ (t most melts : Nat) (x : List Nat) (u : V) (a dx : Addr), vs = [.ref a, nV t, u, nV most, nV melts] ∧ H a = some (.ins C dx []) ∧ IT H u x ∧ Fit t x.length x ∧ t ≤ 3 ∧ melts ≤ 3 ∧ x.length ≤ 6 ∧ melts ≤ x.length ∧ (2 ^ t) ^ x.length * (x.length ^ melts * (2 ^ t) ^ melts) ≤ 10000000 ∧
  ∀ H', Kp (off a H) H' → FloodIs C H' (.ref a) t most melts x.length (inOrder x) → Q .non H'
theorem fn_init (FC : FlC K C) (F : MthC K C "__init__" "Flood.__init__" st_init f fd c) (B : Bi mg) (C_in_order : Cal P w K mg base 4 "in_order" ["masks"] sp_in_order) (M_find : MCal P w K mg base C 7 "find" ["self", "first"] (sp_find C)) (M_reckon : MCal P w K mg base C 3 "reckon" ["self"] (sp_reckon C)) : FnOk P w K mg base CX0 8 f fd ["self", "texts", "masks", "most", "melts"] (sp_init C) ∧ Binds K fd ["self", "texts", "masks", "most", "melts"] [] := by
  refine F.fn sc_init (fun _ _ _ _ h => h.1) (fun _ _ _ _ _ _ us hl => match us, hl with | [_, _, _, _, _], _ => rfl) (fun A outer s H vs Q hr h => ?_) (fun _ _ _ _ h => h)
  refine ⟨_, (pss_cons (ps_fld (pv 0) (pv 1) (by rfl))
  (pss_cons (ps_fld (pv 0) (pv 3) (by rfl))
  (pss_cons (ps_fld (pv 0) (pv 4) (by rfl))
  (pss_cons (ps_fld (pv 0) pe_dnewT (by rfl))
  (pss_cons (ps_expr (pe_mcal M_find hr (by decide) (pv 0) (pa_cons (pe_cal C_in_order hr (by decide) (by rfl) (pa_cons (pv 2) pa_nil)) pa_nil)))
  (pss_one (ps_fld (pv 0) (pe_mcal0 M_reckon hr (by decide) (pv 0)) (by rfl)))))))), ?_⟩
  obtain ⟨_, t, most, melts, x, u, a, dx, rfl, ea, it, fx, t3, m3, n6, hmn, cap, k⟩ := h
  have L0 : ([] : List (Str × V)).length < 1 := by decide
  refine ⟨_, rfl, _, rfl, a, C, dx, _, rfl, ea, FC.cl, FC.texts, by decide, ?_⟩
  refine ⟨_, rfl, _, rfl, a, C, dx, _, rfl, upd_same, FC.cl, FC.most, Nat.lt_of_lt_of_le (putF_lt L0) (by decide), ?_⟩
  refine ⟨_, rfl, _, rfl, a, C, dx, _, rfl, upd_same, FC.cl, FC.melts, Nat.lt_of_lt_of_le (putF_lt (putF_lt L0)) (by decide), ?_⟩
  intro W hW
  have nWa : a ≠ W := by
    rintro rfl
    rw [upd_same] at hW
    cases hW
  refine ⟨_, rfl, a, C, dx, _, rfl, by rw [upd_ne nWa]; exact upd_same, FC.cl, FC.ways, Nat.lt_of_lt_of_le (putF_lt (putF_lt (putF_lt L0))) (by decide), ?_⟩
  rw [fsW_is]
  have kA : ∀ {H1 : Hp} {o : HO}, Kp (off a H) H1 → Kp (off a H) (upd H1 a o) := fun k => k.put off_same
  have k4 : Kp (off a H) (upd (upd (upd (upd (upd H a (HO.ins C dx (putF (Str.ofString "texts") (nV t) []))) a (HO.ins C dx (putF (Str.ofString "most") (nV most) (putF (Str.ofString "texts") (nV t) [])))) a (HO.ins C dx (putF (Str.ofString "melts") (nV melts) (putF (Str.ofString "most") (nV most) (putF (Str.ofString "texts") (nV t) []))))) W (HO.dT [])) a (HO.ins C dx (fsW t most melts W))) := kA ((kA (kA (kA (kp_off H)))).put (by
    rw [off_ne (Ne.symm nWa)]
    rw [upd_ne (Ne.symm nWa), upd_ne (Ne.symm nWa), upd_ne (Ne.symm nWa)] at hW
    exact hW))
  have e4 : (upd (upd (upd (upd (upd H a (HO.ins C dx (putF (Str.ofString "texts") (nV t) []))) a (HO.ins C dx (putF (Str.ofString "most") (nV most) (putF (Str.ofString "texts") (nV t) [])))) a (HO.ins C dx (putF (Str.ofString "melts") (nV melts) (putF (Str.ofString "most") (nV most) (putF (Str.ofString "texts") (nV t) []))))) W (HO.dT [])) a (HO.ins C dx (fsW t most melts W))) a = some (HO.ins C dx (fsW t most melts W)) := upd_same
  have w4 : (upd (upd (upd (upd (upd H a (HO.ins C dx (putF (Str.ofString "texts") (nV t) []))) a (HO.ins C dx (putF (Str.ofString "most") (nV most) (putF (Str.ofString "texts") (nV t) [])))) a (HO.ins C dx (putF (Str.ofString "melts") (nV melts) (putF (Str.ofString "most") (nV most) (putF (Str.ofString "texts") (nV t) []))))) W (HO.dT [])) a (HO.ins C dx (fsW t most melts W))) W = some (HO.dT (kP [])) := by rw [upd_ne (Ne.symm nWa)]; exact upd_same
  show tSeq _ _ _ _ _
  generalize (upd (upd (upd (upd (upd H a (HO.ins C dx (putF (Str.ofString "texts") (nV t) []))) a (HO.ins C dx (putF (Str.ofString "most") (nV most) (putF (Str.ofString "texts") (nV t) [])))) a (HO.ins C dx (putF (Str.ofString "melts") (nV melts) (putF (Str.ofString "most") (nV most) (putF (Str.ofString "texts") (nV t) []))))) W (HO.dT [])) a (HO.ins C dx (fsW t most melts W))) = H4 at *
  have it4 : IT H4 u x := (it_off it fun xs z => by rw [ea] at z; cases z).kp k4
  refine ⟨_, rfl, a, dx, _, rfl, e4, rfl, _, rfl, rfl, x, ⟨u, rfl, .inl it4⟩, ?_⟩
  rintro u5 H5 k5 it5
  refine ⟨rfl, t, most, melts, W, inOrder x, .ref a, u5, rfl, ⟨a, dx, rfl, k5.ins e4⟩, it5, k5.dT w4, ?_⟩
  have fo := order_fit fx
  rw [fo.1]
  refine ⟨fo, t3, m3, n6, hmn, cap, ?_⟩
  intro H6 kvs k6 w6 ways6 fnd fit6
  have e6 := k6.ins (show off W H5 a = _ by rw [off_ne nWa]; exact k5.ins e4)
  refine ⟨_, rfl, a, dx, _, rfl, e6, rfl, rfl, ((t, most, melts, W), kvs), ⟨_, rfl, ⟨a, dx, rfl, e6⟩, w6, ways6, t3, m3⟩, ?_⟩
  rintro _ H7 k7 ⟨N, fkv, rfl, hN0, hN, rec⟩
  refine ⟨_, rfl, a, C, dx, _, rfl, k7.ins e6, FC.cl, FC.within, (by show (4 : Nat) < 1000; decide), ?_⟩
  rw [fsX_is]
  have hW0 : off a H W = none := by
    rw [off_ne (Ne.symm nWa)]
    rw [upd_ne (Ne.symm nWa), upd_ne (Ne.symm nWa), upd_ne (Ne.symm nWa)] at hW
    exact hW
  have kz : Kp (off a H) H7 := ((kp_to_off (k4.trans k5) hW0).trans k6).trans k7
  have e7 := k7.ins e6
  have nNa : N ≠ a := by
    rintro rfl
    rw [e6] at hN0
    cases hN0
  refine k _ (kz.put off_same) ⟨a, dx, W, N, kvs, fkv, rfl, upd_same, by rw [upd_ne (Ne.symm nWa)]; exact k7.dT w6, ⟨ways6.nd, ways6.sz, ways6.ok, fun p hp => ?_⟩, fnd, fit6, by rw [upd_ne nNa]; exact hN, rec⟩
  have q := (ways6.an p hp).kp (off_kp k7)
  exact (ans_off (D := a) q (fun xs z => by rw [off_ne nWa, e7] at z; cases z) (fun xs z => by rw [off_ne nWa, e7] at z; cases z)).kp off_two
abbrev st_flood_of : Stmt := topS 34
abbrev N_flood_of : List Str := ["library", "most", "melts"]
theorem sc_flood_of : FnScope N_flood_of ["library", "most", "melts"] (defScope st_flood_of) := ⟨rfl, rfl, rfl, by decide +kernel, rfl, by decide +kernel, by decide +kernel⟩
def sp_flood_of (C : Addr) : Sp := spR 3 (fun vs H (x : Nat × List (List Nat) × Nat × Nat) => ∃ v, vs = [v, nV x.2.2.1, nV x.2.2.2] ∧ Lib H v x.1 x.2.1 ∧ LibGood x.1 x.2.1 ∧ x.2.2.2 ≤ 3 ∧ x.2.2.2 ≤ x.2.1.length ∧ (2 ^ x.1) ^ x.2.1.length * (x.2.1.length ^ x.2.2.2 * (2 ^ x.1) ^ x.2.2.2) ≤ 10000000)
  fun x v H => FloodIs C H v x.1 x.2.2.1 x.2.2.2 x.2.1.length (inOrder (x.2.1.map maskOf))
theorem cal_flood_of (F : FunC K mg "flood_of" st_flood_of f fd c) (B : Bi mg) (C_masks_of : Cal P w K mg base 2 "masks_of" ["library"] sp_masks_of) (C_Flood : KCal P w K mg base C 8 "Flood" ["self", "texts", "masks", "most", "melts"] (sp_init C)) : Cal P w K mg base 10 "flood_of" ["library", "most", "melts"] (sp_flood_of C) := by
  refine F.cal sc_flood_of spR_len (fun _ _ _ _ _ _ us hl => match us, hl with | [_, _, _], _ => rfl) (fun A outer s H vs Q hr h => ?_) spR_E
  refine ⟨_, (pss_one (ps_ret (pe_mk C_Flood hr (by decide) (by rfl) (pa_cons (pe_ix (ix_tupK K) (pv 0) pe_int (fun _ _ => rfl)) (pa_cons (pe_cal C_masks_of hr (by decide) (by rfl) (pa_cons (pv 0) pa_nil)) (pa_cons (pv 1) (pa_cons (pv 2) pa_nil))))))), ?_⟩
  obtain ⟨_, ⟨t, l, most, melts⟩, ⟨v, rfl, lib, g, h3, h4, cap⟩, k⟩ := h
  dsimp only at lib g h3 h4 cap
  obtain ⟨a, b, xs, rfl, e1, e2, its⟩ := id lib
  refine ⟨_, rfl, a, _, _, _, rfl, rfl, SqT.of e1, atI_nat (j := 0) rfl, _, rfl, rfl, (t, l), ⟨_, rfl, lib, lib_ok g⟩, ?_⟩
  rintro u H1 k1 iu
  refine ⟨_, rfl, _, rfl, ?_⟩
  intro x dx hx hdx ne
  have ff := lib_fit g
  have nx : dx ≠ x := ne
  have kx : Kp H1 (upd H1 dx (.own x)) := Kp.new hdx
  have hx2 : upd H1 dx (.own x) x = none := by rw [upd_ne (Ne.symm nx)]; exact hx
  refine ⟨rfl, t, most, melts, l.map maskOf, u, x, dx, rfl, upd_same, iu.kp (kx.trans (Kp.new hx2)), ?_⟩
  rw [List.length_map]
  refine ⟨ff, g.t3, h3, g.l6, h4, cap, ?_⟩
  intro H' k' fl
  refine ⟨rfl, k _ _ (k1.trans (kx.trans (kp_of_off hx2 k'))) fl⟩
end
end MX
end

section
set_option Elab.async false
set_option linter.all false
set_option maxRecDepth 100000
set_option maxHeartbeats 4000000
namespace MX
open PySem PySem.Spec PyProof.Rows L2
/-! ### libraries as data -/
def tsD (l : List (List Nat)) : PyData := .tuple (l.map tD)
def libD (t : Nat) (l : List (List Nat)) : PyData := .tuple [.int (t : Int), tsD l]
theorem eqv_nats : ∀ a b : List Nat, PyData.eqvAll (a.map fun (n : Nat) => PyData.int (n : Int)) (b.map fun (n : Nat) => PyData.int (n : Int)) = decide (a = b)
  | [], [] => rfl
  | [], _ :: _ => rfl
  | _ :: _, [] => rfl
  | x :: a, y :: b => by
    rw [List.map_cons, List.map_cons]
    show ((x : Int) == (y : Int) && PyData.eqvAll _ _) = _
    rw [eqv_nats a b]
    by_cases h : x = y
    · subst h
      simp
    · have : ((x : Int) == (y : Int)) = false := beq_eq_false_iff_ne.mpr (by omega)
      rw [this]
      simp [h]
theorem eqv_t (a b : List Nat) : PyData.eqv (tD a) (tD b) = decide (a = b) := eqv_nats a b
theorem eqv_all : ∀ a b : List (List Nat), PyData.eqvAll (a.map tD) (b.map tD) = decide (a = b)
  | [], [] => rfl
  | [], _ :: _ => rfl
  | _ :: _, [] => rfl
  | x :: a, y :: b => by
    rw [List.map_cons, List.map_cons]
    show (PyData.eqv (tD x) (tD y) && PyData.eqvAll _ _) = _
    rw [eqv_all a b, eqv_t]
    by_cases h : x = y
    · subst h
      simp
    · simp [h]
theorem eqv_ts (a b : List (List Nat)) : PyData.eqv (tsD a) (tsD b) = decide (a = b) := eqv_all a b
theorem eqv_lib (t : Nat) (a b : List (List Nat)) : PyData.eqv (libD t a) (libD t b) = decide (a = b) := by
  show ((t : Int) == (t : Int) && (PyData.eqv (tsD a) (tsD b) && true)) = _
  rw [eqv_ts]
  simp
theorem rowLt_ts : ∀ a b : List (List Nat), PySem.W.rowLt (a.map tD) (b.map tD) = decide (a < b)
  | [], [] => by
    have : PySem.W.rowLt [] [] = false := lex_irrefl _
    simpa using this
  | [], y :: b => by
    have e : PySem.W.rowLt [] (tD y :: b.map tD) = true := by
      unfold PySem.W.rowLt
      rw [PySem.W.toks_all_cons]
      simp only [PySem.W.keyToksAll]
      rw [lex_diff (O := itemOrd) (by simp)]
      rfl
    simpa using e
  | x :: a, [] => by
    have e : PySem.W.rowLt (tD x :: a.map tD) [] = false := by
      unfold PySem.W.rowLt
      rw [PySem.W.toks_all_cons]
      simp only [PySem.W.keyToksAll]
      rw [lex_diff (O := itemOrd) (by simp)]
      rfl
    simpa using e
  | x :: a, y :: b => by
    rw [List.map_cons, List.map_cons]
    have q := PySem.W.dataLt_cons (alike_t x y) (a.map tD) (b.map tD)
    have ih := rowLt_ts a b
    unfold PySem.W.rowLt at ih ⊢
    rw [q, ih, eqv_t, tD_lt]
    by_cases h : x = y
    · subst h
      rw [if_pos (decide_eq_true rfl)]
      refine decide_eq_decide.mpr ?_
      rw [List.cons_lt_cons_iff]
      constructor
      · exact fun h => .inr ⟨rfl, h⟩
      · rintro (h | ⟨_, h⟩)
        · exact absurd h (List.lt_irrefl x)
        · exact h
    · rw [if_neg (by rw [decide_eq_false h]; decide)]
      refine decide_eq_decide.mpr ?_
      rw [List.cons_lt_cons_iff]
      constructor
      · exact fun h => .inl h
      · rintro (q | ⟨q, _⟩)
        · exact q
        · exact absurd q h
theorem lt_ts (a b : List (List Nat)) : PySem.W.dataLt (tsD a) (tsD b) = decide (a < b) := by
  unfold tsD
  rw [PySem.W.dataLt_tuple]
  exact rowLt_ts a b
theorem alike_all : ∀ a b : List (List Nat), PySem.W.alikeAll (a.map tD) (b.map tD) = true
  | [], b => rfl
  | x :: a, [] => rfl
  | x :: a, y :: b => by
    show (PySem.W.alike (tD x) (tD y) && PySem.W.alikeAll _ _) = true
    rw [alike_t, alike_all a b]
    rfl
theorem alike_ts (a b : List (List Nat)) : PySem.W.alike (tsD a) (tsD b) = true := alike_all a b
theorem alike_lib (t : Nat) (a b : List (List Nat)) : PySem.W.alike (libD t a) (libD t b) = true := by
  show (true && (PySem.W.alike (tsD a) (tsD b) && true)) = true
  rw [alike_ts]
  rfl
theorem lt_lib (t : Nat) (a b : List (List Nat)) : PySem.W.dataLt (libD t a) (libD t b) = decide (a < b) := by
  unfold libD
  rw [PySem.W.dataLt_pair rfl (alike_ts a b), eqv_ts, lt_ts]
  have : PyData.eqv (.int (t : Int)) (.int (t : Int)) = true := by simp [PyData.eqv]
  rw [if_pos this]
  by_cases h : a = b
  · subst h
    rw [if_pos (decide_eq_true rfl)]
    exact (decide_eq_false (List.lt_irrefl a)).symm
  · rw [if_neg (by rw [decide_eq_false h]; decide)]
theorem dep_ts (l : List (List Nat)) : (tsD l).depth ≤ 2 := by
  unfold tsD PyData.depth
  have := dep_all tD 1 (fun x => by rw [depth_t]; exact Nat.le_refl _) l
  omega
theorem dep_lib (t : Nat) (l : List (List Nat)) : (libD t l).depth ≤ 3 := by
  unfold libD PyData.depth
  have := dep_ts l
  show PyData.depthAll [.int (t : Int), tsD l] + 1 ≤ 3
  simp only [PyData.depthAll, PyData.depth]
  omega
theorem IT.dpT {K : PySem.W.Frag} {H : Hp} {b : Addr} {vs : List V} {l : List (List Nat)} (e : H b = some (.tup vs)) (its : ITs H vs l) : Dp K H (.ref b) (tsD l) := .tup (SqT.of e) its.dp
theorem Lib.dp {K : PySem.W.Frag} {H : Hp} {v : V} {t : Nat} {l : List (List Nat)} (h : Lib H v t l) : Dp K H v (libD t l) := by
  obtain ⟨a, b, vs, rfl, p, q, its⟩ := h
  exact .tup (SqT.of p) (.cons (.int _) (.cons (IT.dpT q its) .nil))
abbrev Libs (H : Hp) (t : Nat) : List V → List (List (List Nat)) → Prop := Paired fun v l => Lib H v t l
theorem Libs.tk {H H' : Hp} {t : Nat} {vs : List V} {l : List (List (List Nat))} (h : Libs H t vs l) (k : Tk H H') : Libs H' t vs l := Paired.mono (fun _ _ q => q.tk k) h
theorem Libs.dp {K : PySem.W.Frag} {H : Hp} {t : Nat} {vs : List V} {l : List (List (List Nat))} (h : Libs H t vs l) : DpAll K H vs (l.map (libD t)) := by
  induction h with
  | nil => exact .nil
  | cons a _ ih => exact .cons a.dp ih
theorem srt_lib (t : Nat) (l : List (List (List Nat))) : SrtOk (l.map (libD t)) where
  al := PySem.W.AllAlike.of fun a b => alike_lib t a b
  kd := .inl fun d hd => by
    obtain ⟨a, _, rfl⟩ := List.mem_map.mp hd
    exact ⟨_, rfl⟩
  dp := fun d hd => by
    obtain ⟨a, _, rfl⟩ := List.mem_map.mp hd
    exact Nat.le_trans (dep_lib t a) (by decide)
/-- ascending, libraries of the same texts -/
def sortM (l : List (List (List Nat))) : List (List (List Nat)) := l.mergeSort fun a b => !decide (b < a)
theorem sortV_lib {H : Hp} {t : Nat} {xs : List V} {l : List (List (List Nat))} (h : Libs H t xs l) : Libs H t (sortV xs (l.map (libD t))) (sortM l) := by
  have := sortV_paired (enc := libD t) h
  unfold sortM
  simp only [lt_lib] at this
  exact this
/-! ### the family told -/
def FamV (H : Hp) (v : V) (t : Nat) : Option (List (List (List Nat))) → Prop
  | none => v = .non
  | some l => ∃ p vs, v = .ref p ∧ H p = some (.tup vs) ∧ Libs H t vs l
theorem FamV.kp {H H' : Hp} {v : V} {t : Nat} {o : Option (List (List (List Nat)))} (h : FamV H v t o) (k : Kp H H') : FamV H' v t o := by
  cases o with
  | none => exact h
  | some l =>
    obtain ⟨p, vs, e, q, r⟩ := h
    exact ⟨p, vs, e, k.tup q, r.tk k.tk⟩
/-- what a family of places must be: each answer to each loss stays within -/
structure Held (t most melts : Nat) (first : List Nat) (S : List (List Nat)) : Prop where
  nd : S.Nodup
  fst : first ∈ S
  reach : ∀ m ∈ S, Reach t most melts first m
  keep : ∀ m ∈ S, ∀ o ∈ ansOf t most melts m, ∃ l, o = some l ∧ ∃ x ∈ l, x ∈ S
theorem lost_in {t most melts : Nat} {keys F : List (List Nat)} (R : Reckoned t most melts keys F) (cl : ∀ m ∈ keys, ∀ l, some l ∈ ansOf t most melts m → ∀ x ∈ l, x ∈ keys) {m : List Nat} (h : Lost t most melts m) : m ∈ keys → m ∈ F := by
  induction h with
  | base h => exact fun hk => R.base _ hk h
  | @none m h =>
    intro hk
    by_cases hf : m ∈ F
    · exact hf
    · have := R.closed m hk hf
      rw [beat_iff.mpr (.inl h)] at this
      cases this
  | @some m l h q ih =>
    intro hk
    by_cases hf : m ∈ F
    · exact hf
    · have := R.closed m hk hf
      rw [beat_iff.mpr (.inr ⟨l, h, fun x hx => ih x hx (cl m hk l h x hx)⟩)] at this
      cases this
/-- half way: L still to be looked at -/
structure Told (t most melts : Nat) (first : List Nat) (keys F S L : List (List Nat)) : Prop where
  nd : S.Nodup
  safe : ∀ m, m ∈ S ∨ m ∈ L → m ∈ keys ∧ m ∉ F
  fst : first ∈ S ∨ first ∈ L
  keep : ∀ m ∈ S, ∀ o ∈ ansOf t most melts m, ∃ l, o = some l ∧ ∃ x ∈ l, x ∈ S ∨ x ∈ L
end MX
end

section
set_option Elab.async false
set_option linter.all false
set_option maxRecDepth 100000
set_option maxHeartbeats 4000000
namespace MX
open PySem PySem.Spec PyProof.Rows L2
theorem paired_head {α β : Type} {F : α → β → Prop} {xs : List α} {ys : List β} (h : Paired F xs ys) (n : ys ≠ []) : ∃ x y, xs[0]? = some x ∧ ys[0]? = some y ∧ F x y := by
  cases h with
  | nil => exact absurd rfl n
  | cons a _ => exact ⟨_, _, rfl, rfl, a⟩
theorem Told.skip {t most melts : Nat} {first m : List Nat} {keys F S L : List (List Nat)} (h : Told t most melts first keys F S (L ++ [m])) (hm : m ∈ S) : Told t most melts first keys F S L where
  nd := h.nd
  safe := fun x q => h.safe x (q.imp id fun q => by simp [q])
  fst := by
    rcases h.fst with q | q
    · exact .inl q
    · rcases List.mem_append.mp q with q | q
      · exact .inr q
      · rw [List.mem_singleton.mp q]
        exact .inl hm
  keep := fun k hk o ho => by
    obtain ⟨l, e, x, hx, q⟩ := h.keep k hk o ho
    refine ⟨l, e, x, hx, ?_⟩
    rcases q with q | q
    · exact .inl q
    · rcases List.mem_append.mp q with q | q
      · exact .inr q
      · rw [List.mem_singleton.mp q]
        exact .inl hm
theorem Told.take {t most melts : Nat} {first m : List Nat} {keys F S L N : List (List Nat)} (h : Told t most melts first keys F S (L ++ [m])) (hm : m ∉ S) (n1 : ∀ x ∈ N, x ∈ keys ∧ x ∉ F) (n2 : ∀ o ∈ ansOf t most melts m, ∃ l, o = some l ∧ ∃ x ∈ l, x ∈ N) : Told t most melts first keys F (S ++ [m]) (L ++ N) where
  nd := by
    rw [List.nodup_append]
    exact ⟨h.nd, by simp, fun a ha b hb => by
      rw [List.mem_singleton.mp hb]
      rintro rfl
      exact hm ha⟩
  safe := fun x q => by
    rcases q with q | q
    · rcases List.mem_append.mp q with q | q
      · exact h.safe x (.inl q)
      · rw [List.mem_singleton.mp q]
        exact h.safe m (.inr (by simp))
    · rcases List.mem_append.mp q with q | q
      · exact h.safe x (.inr (by simp [q]))
      · exact n1 x q
  fst := by
    rcases h.fst with q | q
    · exact .inl (by simp [q])
    · rcases List.mem_append.mp q with q | q
      · exact .inr (by simp [q])
      · exact .inl (by simp [List.mem_singleton.mp q])
  keep := fun k hk o ho => by
    rcases List.mem_append.mp hk with hk | hk
    · obtain ⟨l, e, x, hx, q⟩ := h.keep k hk o ho
      refine ⟨l, e, x, hx, ?_⟩
      rcases q with q | q
      · exact .inl (by simp [q])
      · rcases List.mem_append.mp q with q | q
        · exact .inr (by simp [q])
        · exact .inl (by simp [List.mem_singleton.mp q])
    · rw [List.mem_singleton.mp hk] at ho
      obtain ⟨l, e, x, hx, q⟩ := n2 o ho
      exact ⟨l, e, x, hx, .inr (by simp [q])⟩
theorem Told.done {t most melts : Nat} {first : List Nat} {keys F S : List (List Nat)} (h : Told t most melts first keys F S []) (fnd : Found t most melts first keys) : Held t most melts first S where
  nd := h.nd
  fst := by
    rcases h.fst with q | q
    · exact q
    · cases q
  reach := fun m hm => fnd.sound m (h.safe m (.inl hm)).1
  keep := fun k hk o ho => by
    obtain ⟨l, e, x, hx, q⟩ := h.keep k hk o ho
    refine ⟨l, e, x, hx, ?_⟩
    rcases q with q | q
    · exact q
    · cases q
section
variable {P : Program} {w : World} {K : PySem.W.Frag} {mg : Str → Option Value} {base : Heap} {f c C : Addr} {fd : FuncData}
abbrev st_flood_family : Stmt := topS 35
abbrev N_flood_family : List Str := ["library", "most", "melts", "flood", "found", "layer", "masks", "answers", "safe", "held", "other"]
theorem sc_flood_family : FnScope N_flood_family ["library", "most", "melts"] (defScope st_flood_family) := ⟨rfl, rfl, rfl, by decide +kernel, rfl, by decide +kernel, by decide +kernel⟩
/-- a question about floods that is let pass, and small -/
structure Ask (t : Nat) (l : List (List Nat)) (most melts : Nat) : Prop where
  g : LibGood t l
  h1 : 1 ≤ most
  h2 : most ≤ 3
  h3 : 1 ≤ melts
  h4 : melts ≤ 3
  h5 : melts ≤ l.length
  cap : (2 ^ t) ^ l.length * (l.length ^ melts * (2 ^ t) ^ melts) ≤ 10000000
def firstOf (l : List (List Nat)) : List Nat := inOrder (l.map maskOf)
def sp_flood_family (C T1 T2 : Addr) : Sp := spR 3 (fun vs H (x : Nat × List (List Nat) × Nat × Nat) => ∃ v, vs = [v, nV x.2.2.1, nV x.2.2.2] ∧ Lib H v x.1 x.2.1 ∧ Ask x.1 x.2.1 x.2.2.1 x.2.2.2 ∧ GxR.TabG H T1 ∧ GxR.TabG H T2)
  fun x v H => ∃ r : Option (List (List Nat)), FamV H v x.1 (r.map fun S => sortM (S.map fun m => m.map tabletOf)) ∧ (r = none → Lost x.1 x.2.2.1 x.2.2.2 (firstOf x.2.1)) ∧ ∀ S, r = some S → Held x.1 x.2.2.1 x.2.2.2 (firstOf x.2.1) S ∧ ¬ Lost x.1 x.2.2.1 x.2.2.2 (firstOf x.2.1)
theorem cal_flood_family {T1 T2 : Addr} (FC : FlC K C) (F : FunC K mg "flood_family" st_flood_family f fd c) (B : Bi mg) (C_need_flood : Cal P w K mg base 6 "need_flood" ["library", "most", "melts"] (sp_need_flood T1 T2)) (C_flood_of : Cal P w K mg base 10 "flood_of" ["library", "most", "melts"] (sp_flood_of C)) (C_masks_of : Cal P w K mg base 2 "masks_of" ["library"] sp_masks_of) (C_in_order : Cal P w K mg base 4 "in_order" ["masks"] sp_in_order) (C_library_of : Cal P w K mg base 2 "library_of" ["texts", "masks"] sp_library_of) : Cal P w K mg base 11 "flood_family" ["library", "most", "melts"] (sp_flood_family C T1 T2) := by
  refine F.cal sc_flood_family spR_len (fun _ _ _ _ _ _ us hl => match us, hl with | [_, _, _], _ => rfl) (fun A outer s H vs Q hr h => ?_) spR_E
  refine ⟨_, (pss_cons (ps_expr (pe_cal C_need_flood hr (by decide) (by rfl) (pa_cons (pv 0) (pa_cons (pv 1) (pa_cons (pv 2) pa_nil)))))
  (pss_cons (ps_set (i := 3) sc_flood_family.nd rfl (Or.inr rfl) (pe_cal C_flood_of hr (by decide) (by rfl) (pa_cons (pv 0) (pa_cons (pv 1) (pa_cons (pv 2) pa_nil)))))
  (pss_cons (ps_asg (pe_tup (pa_cons pe_dnewT (pa_cons (pe_lst (pa_cons (pe_cal C_in_order hr (by decide) (by rfl) (pa_cons (pe_cal C_masks_of hr (by decide) (by rfl) (pa_cons (pv 0) pa_nil)) pa_nil)) pa_nil)) pa_nil))) (pg_tupK K (n := 2) (hc := rfl) (h := (pgs_cons (pg_name (i := 4) sc_flood_family.nd rfl (by first | exact Or.inl rfl | exact Or.inr rfl)) (pgs_cons (pg_name (i := 5) sc_flood_family.nd rfl (by first | exact Or.inl rfl | exact Or.inr rfl)) pgs_nil)))))
  (pss_cons (ps_if (pt_cmp (pc_din (hu_of hr) (pe_ix (ix_listK K) (pv 5) pe_int (fun _ _ => rfl)) (pe_fldK K (he := (pv 3))))) (pss_one (ps_ret pe_non)) pss_nil)
  (pss_cons (ps_while PassesOwn.never (pt_cmpR (op_neDK K (hu := hr.units)) (pv 5) (pe_lst pa_nil) (nomark _)) (pss_cons (ps_set (i := 6) sc_flood_family.nd rfl (Or.inl rfl) (pe_bm0 PySem.F.plainAttrs_list PySem.F.slot_list_pop PySem.F.type_list_pop mt_pop (pv 5)))
  (pss_one (ps_if (pt_cmp (pc_dnotin (hu_of hr) (pv 6) (pv 4))) (pss_cons (ps_dput (hu_of hr) (pv 4) (pv 6) pe_bl (by rfl))
  (pss_one (ps_for PassesOwn.never rfl (pi_listK K (hl := (pe_dget (hu_of hr) (pe_fldK K (he := (pv 3))) (pv 6) (fun _ _ => rfl)))) (pg_name (i := 7) sc_flood_family.nd rfl (by first | exact Or.inl rfl | exact Or.inr rfl)) (pss_cons (ps_setLc (own := [("other", 10)]) (i := 8) rfl sc_flood_family.nd rfl rfl (sw_true rfl rfl rfl (by decide +kernel)) (pi_listK K (hl := (pv 7))) (blkOk_by (own := [("other", 10)]) (N := N_flood_family) (sc := defScope st_flood_family) (by decide +kernel)) (fun _ _ _ _ _ => (pg_name (i := 10) sc_flood_family.nd rfl (by first | exact Or.inl rfl | exact Or.inr rfl))) (fun _ _ _ _ _ => (pts_one (pt_cmp (pc_dnotin (hu_of hr) (pv 10) (pe_fldK K (he := (pv 3))))))) (fun _ _ _ _ _ => (pv 10)))
  (pss_cons (ps_setLc (own := [("other", 10)]) (i := 9) rfl sc_flood_family.nd rfl rfl (sw_true rfl rfl rfl (by decide +kernel)) (pi_listK K (hl := (pv 8))) (blkOk_by (own := [("other", 10)]) (N := N_flood_family) (sc := defScope st_flood_family) (by decide +kernel)) (fun _ _ _ _ _ => (pg_name (i := 10) sc_flood_family.nd rfl (by first | exact Or.inl rfl | exact Or.inr rfl))) (fun _ _ _ _ _ => (pts_one (pt_cmp (pc_din (hu_of hr) (pv 10) (pv 4))))) (fun _ _ _ _ _ => (pv 10)))
  (pss_one (ps_expr (pe_bm PySem.F.plainAttrs_list PySem.F.slot_list_append PySem.F.type_list_append mt_append (pv 5) (pa_cons (pe_ix (ix_listK K) (pe_op op_cat (pv 9) (pv 8)) pe_int (fun _ _ => rfl)) pa_nil))))))))) pss_nil))))
  (pss_one (ps_ret (pe_callTy (call_tuple_ofK K) (by rfl) B.tuple boot_tuple (pa_cons (pe_callB (cr_sortCK K (hc := (cl_seqK K)) (hu := un_of hr (by decide))) (by rfl) B.sorted boot_sorted (pa_cons (pe_lock (pe_lc (own := [("masks", 6)]) rfl sc_flood_family.nd (pi_keys (pv 4)) (blkOk_by (own := [("masks", 6)]) (N := N_flood_family) (sc := defScope st_flood_family) (by decide +kernel)) (fun _ _ _ _ _ => (pg_name (i := 6) sc_flood_family.nd rfl (by first | exact Or.inl rfl | exact Or.inr rfl))) (fun _ _ _ _ _ => pts_nil) (fun _ _ _ _ _ => (pe_cal C_library_of hr (by decide) (by rfl) (pa_cons (pe_ix (ix_tupK K) (pv 0) pe_int (fun _ _ => rfl)) (pa_cons (pv 6) pa_nil)))))) pa_nil)) pa_nil))))))))), ?_⟩
  obtain ⟨_, ⟨t, l, most, melts⟩, ⟨v, rfl, lib, ⟨g, h1, h2, h3, h4, h5, cap⟩, tab1, tab2⟩, k⟩ := h
  dsimp only at lib g h1 h2 h3 h4 h5 cap
  refine ⟨_, rfl, _, rfl, _, rfl, rfl, (t, l, most, melts), ⟨v, rfl, lib, g, h1, h2, h3, h4, h5, tab1, tab2⟩, ?_⟩
  rintro _ H1 k1 rfl
  refine ⟨_, rfl, _, rfl, _, rfl, rfl, (t, l, most, melts), ⟨v, rfl, lib.kp k1, g, h4, h5, cap⟩, ?_⟩
  rintro fv H2 k2 ⟨a, dx, W, N, kvs, fkv, rfl, ea, eW, ways, fnd, fit, eN, rec⟩
  dsimp only at ea eW ways fnd fit eN rec
  intro D hD
  have k3 : Kp H2 (upd H2 D (.dT [])) := Kp.new hD
  have kA := k1.trans k2
  have lib3 := lib.kp (kA.trans k3)
  refine ⟨_, rfl, rfl, (t, l), ⟨v, rfl, lib3, lib_ok g⟩, ?_⟩
  rintro u1 H4 k4 iu1
  refine ⟨rfl, l.map maskOf, ⟨u1, rfl, .inl iu1⟩, ?_⟩
  rintro u H5 k5 iu
  refine ⟨by show 1 ≤ sizeLine; decide, fun La hLa => ?_⟩
  have k5' := (k3.trans k4).trans k5
  have hLa2 : H2 La = none := k5'.free hLa
  have kL : Kp H5 (upd H5 La (.lst [u])) := Kp.new hLa
  have eD5 : H5 D = some (.dT []) := k5.dT (k4.dT upd_same)
  have nDL : D ≠ La := ne_of_none eD5 hLa
  have kp6 := k5'.trans kL
  have eD6 : upd H5 La (.lst [u]) D = some (.dT []) := kL.dT eD5
  have eL6 : upd H5 La (.lst [u]) La = some (.lst [u]) := upd_same
  have iu6 := iu.kp kL
  generalize upd H5 La (.lst [u]) = H6 at *
  refine ⟨by show 2 ≤ sizeLine; decide, fun pt hpt => ?_⟩
  have kpt : Kp H6 (upd H6 pt (.tup [.ref D, .ref La])) := Kp.new hpt
  refine ⟨pt, _, rfl, SqT.of upd_same, rfl, ?_⟩
  have kp7 := kp6.trans kpt
  have eD7 := kpt.dT eD6
  have eL7 := kpt.lst eL6
  have iu7 := iu6.kp kpt
  generalize upd H6 pt (.tup [.ref D, .ref La]) = H7 at *
  have rN : ∀ {H' : Hp}, Kp H2 H' → Rd H' N (.dT (kP fkv)) := fun k => .inl (k.dT eN)
  have lost_iff : Lost t most melts (firstOf l) ↔ firstOf l ∈ fkv.map (·.1) := ⟨fun h => lost_in rec fnd.closed h fnd.fst, fun h => rec.sound _ h⟩
  refine ⟨_, _, rfl, _, _, rfl, rfl, ?_⟩
  refine ⟨_, rfl, La, _, 0, _, rfl, rfl, SqL.of eL7, atI_nat (j := 0) rfl, _, rfl, a, C, dx, _, .ref N, rfl, kp7.ins ea, FC.cl, FC.within, rfl, N, _, rfl, DR.get (rN kp7) iu7, ⟨_, rfl, ?_⟩⟩
  rw [val_mem]
  refine ite_b (fun hb => ?_) fun hb => ?_
  · refine k _ _ (kA.trans kp7) ⟨none, rfl, fun _ => lost_iff.mpr (of_decide_eq_true hb), fun S z => by cases z⟩
  have hn1 : firstOf l ∉ fkv.map (·.1) := of_decide_eq_false hb
  have p2 : 0 < (2 ^ t) ^ melts := Nat.pow_pos (Nat.pow_pos (by decide))
  have cap2 : (2 ^ t) ^ l.length * l.length ^ melts ≤ 10000000 := Nat.le_trans (Nat.mul_le_mul_left _ (Nat.le_mul_of_pos_right _ p2)) cap
  generalize hBd : l.length ^ melts = Bd at *
  generalize hn : l.length = n at *
  generalize hU : (2 ^ t) ^ n = U at *
  have hp2 : H2 D = none := hD
  have hq2 : H2 La = none := hLa2
  -- the outer loop
  refine while_m (fun μ σ H' => Kp H2 H' ∧ ∃ S L vs o6 o7 o8 o9, σ = [some v, some (nV most), some (nV melts), some (.ref a), some (.ref D), some (.ref La), o6, o7, o8, o9, none] ∧ H' D = some (.dT (kS S)) ∧ H' La = some (.lst vs) ∧ ITs H' vs L ∧ Told t most melts (firstOf l) (kvs.map (·.1)) (fkv.map (·.1)) S L ∧ L.length ≤ 1 + S.length * Bd ∧ μ = (U - S.length) * (Bd + 1) + L.length) ⟨_, kp7, [], [firstOf l], [u], _, _, _, _, rfl, eD7, eL7, .cons iu7 .nil, ⟨List.nodup_nil, fun m q => ?_, .inr (by simp), (by intro m hm; cases hm)⟩, by simp, rfl⟩ ?_
  · rcases q with q | q
    · cases q
    · rw [List.mem_singleton.mp q]
      exact ⟨fnd.fst, hn1⟩
  rintro μ σ H8 ⟨kp8, S, L, vs, o6, o7, o8, o9, rfl, eD8, eL8, its8, told, sz8, rfl⟩
  have sK : ∀ m, m ∈ S ∨ m ∈ L → Fit t n m := fun m hm => fit m (told.safe m hm).1
  have sU : S.length ≤ U := by
    rw [← hU]
    exact keys_le told.nd fun m hm => sK m (.inl hm)
  refine ⟨_, rfl, Nat.zero_le _, fun e he => ne_nil (a := La) (b := e) (by rw [upd_ne (ne_of_none eL8 he)]; exact eL8) (its8.tk (Tk.new he)) upd_same ⟨_, rfl, ite_b (fun hb => ⟨_, fun _ _ h => h, ?_⟩) fun hb => ?_⟩⟩
  · have hL : L ≠ [] := by
      rintro rfl
      cases hb
    have k8e : Kp H8 (upd H8 e (.lst [])) := Kp.new he
    have kp9 := kp8.trans k8e
    have eD9 := k8e.dT eD8
    have eL9 := k8e.lst eL8
    have its9 : ITs (upd H8 e (.lst [])) vs L := its8.tk k8e.tk
    generalize upd H8 e (.lst []) = H9 at *
    obtain ⟨L0, m, rfl⟩ : ∃ L0 m, L = L0 ++ [m] := ⟨_, _, (List.dropLast_concat_getLast hL).symm⟩
    obtain ⟨vs0, y, rfl⟩ : ∃ vs0 y, vs = vs0 ++ [y] := by
      have : vs ≠ [] := by
        rintro rfl
        have := its9.length
        simp at this
      exact ⟨_, _, (List.dropLast_concat_getLast this).symm⟩
    have len0 : vs0.length = L0.length := by
      have := its9.length
      simp at this
      exact this
    have itm : IT H9 y m := by
      obtain ⟨z, hz, q⟩ := Paired.at' (i := vs0.length) (x := y) its9 (by simp)
      rw [len0] at hz
      simp at hz
      rw [hz]
      exact q
    have its0 : ITs H9 vs0 L0 := by
      have := Paired.take' vs0.length its9
      rw [List.take_left', len0, List.take_left'] at this
      · exact this
      · rfl
      · rfl
    refine ⟨_, rfl, .inl ⟨rfl, _, SqL.of eL9⟩, La, _, y, rfl, rfl, eL9, by simp, ?_⟩
    rw [List.dropLast_concat]
    have kPop : Kp H2 (upd H9 La (.lst vs0)) := kp9.put hq2
    have tPop : Tk H9 (upd H9 La (.lst vs0)) := Tk.lst eL9
    have eDp : upd H9 La (.lst vs0) D = some (.dT (kS S)) := by rw [upd_ne nDL]; exact eD9
    have eLp : upd H9 La (.lst vs0) La = some (.lst vs0) := upd_same
    have itmp := itm.tk tPop
    have its0p : ITs (upd H9 La (.lst vs0)) vs0 L0 := its0.tk tPop
    generalize upd H9 La (.lst vs0) = HA at *
    rw [kS_kP] at eDp
    refine ⟨_, rfl, _, rfl, D, _, rfl, DR.get (.inl eDp) itmp, ⟨_, rfl, ?_⟩⟩
    rw [val_mem, List.map_map, show ((fun x : List Nat × V => x.1) ∘ fun m : List Nat => (m, V.bl true)) = id from rfl, List.map_id]
    refine ite_b (fun hb2 => ?_) fun hb2 => ?_
    · have hmS : m ∉ S := by simpa using hb2
      obtain ⟨b, rfl, hbk⟩ := itmp.key
      obtain ⟨mk, mF⟩ := told.safe m (.inr (by simp))
      have fm := fit m mk
      obtain ⟨m6, m8⟩ := ways.ok m mk
      rw [← kS_kP] at eDp
      refine ⟨_, rfl, _, rfl, D, _, rfl, DPut.t eDp hbk (by rw [kS_len]; exact sl (Nat.le_trans sU (by rw [← hU]; exact Nat.le_trans (Nat.pow_le_pow_left (Nat.le_trans (Nat.pow_le_pow_right (by decide) g.t3) (by decide : (2 : Nat) ^ 3 ≤ 8)) n) (Nat.le_trans (Nat.pow_le_pow_right (by decide) (by rw [← hn]; exact g.l6)) (by decide))))), ?_⟩
      rw [kS_put, show putN S m = S ++ [m] by unfold putN; rw [if_neg hmS]]
      have kB : Kp H2 (upd HA D (.dT (kS (S ++ [m])))) := kPop.put hp2
      have tB : Tk HA (upd HA D (.dT (kS (S ++ [m])))) := Tk.dT eDp
      have eDb : upd HA D (.dT (kS (S ++ [m]))) D = some (.dT (kS (S ++ [m]))) := upd_same
      have eLb : upd HA D (.dT (kS (S ++ [m]))) La = some (.lst vs0) := by rw [upd_ne (Ne.symm nDL)]; exact eLp
      have itmb := itmp.tk tB
      have its0b : ITs (upd HA D (.dT (kS (S ++ [m])))) vs0 L0 := its0p.tk tB
      generalize upd HA D (.dT (kS (S ++ [m]))) = HB at *
      obtain ⟨p, hp, ep⟩ := List.mem_map.mp mk
      obtain ⟨pk, pv⟩ := p
      dsimp only at ep
      subst ep
      have vm := val_at ways.nd hp
      obtain ⟨q, ws, eq, hq, pr⟩ := (ways.an _ hp).kp (kp_off H2)
      dsimp only at eq pr
      subst eq
      obtain ⟨cA, cB⟩ := ans_fit (most := most) h5 fm
      have nb := rec.closed pk mk mF
      have okO : ∀ o ∈ ansOf t most melts pk, ∃ ll, o = some ll ∧ ll.length ≤ 1000 ∧ (∀ x ∈ ll, x ∈ kvs.map (·.1)) ∧ ∃ x ∈ ll, x ∉ fkv.map (·.1) := by
        intro o ho
        cases o with
        | none => rw [beat_iff.mpr (.inl ho)] at nb; cases nb
        | some ll =>
          refine ⟨ll, rfl, (ans_small m6 m8 h4 _ ho ll rfl).1, fnd.closed pk mk ll ho, ?_⟩
          refine Classical.byContradiction fun z => ?_
          rw [beat_iff.mpr (.inr ⟨ll, ho, fun x hx => Classical.byContradiction fun hx2 => z ⟨x, hx, hx2⟩⟩)] at nb
          cases nb
      rw [hBd] at cA
      generalize hos : ansOf t most melts pk = os at *
      have sU1 : S.length + 1 ≤ U := by
        rw [← hU]
        have := keys_le (t := t) (n := n) (keys := S ++ [pk]) (by
          rw [List.nodup_append]
          exact ⟨told.nd, by simp, fun a ha b hb => by
            rw [List.mem_singleton.mp hb]
            rintro rfl
            exact hmS ha⟩) fun y hy => by
          rcases List.mem_append.mp hy with hy | hy
          · exact sK y (.inl hy)
          · rw [List.mem_singleton.mp hy]
            exact fm
        rw [List.length_append] at this
        exact this
      have sz0 : L0.length ≤ S.length * Bd := by
        rw [List.length_append, List.length_singleton] at sz8
        omega
      have lim : S.length * Bd + Bd ≤ 10000000 := by
        refine Nat.le_trans ?_ cap2
        rw [← Nat.succ_mul]
        exact Nat.mul_le_mul_right _ sU1
      refine ⟨_, rfl, a, C, dx, _, .ref W, rfl, kB.ins ea, FC.cl, FC.ways, rfl, _, rfl, W, .ref q, rfl, by rw [← vm]; exact DR.get (.inl (kB.dT eW)) itmb, ?_⟩
      refine ⟨q, rfl, ⟨_, SqL.of (kB.lst hq)⟩, for_list (K := K) (a := q) (xs := ws) (fun j σ H' => Kp H2 H' ∧ ∃ Nw ns o7 o8 o9, σ = [some v, some (nV most), some (nV melts), some (.ref a), some (.ref D), some (.ref La), some (.ref b), o7, o8, o9, none] ∧ H' D = some (.dT (kS (S ++ [pk]))) ∧ H' La = some (.lst (vs0 ++ ns)) ∧ ITs H' vs0 L0 ∧ ITs H' ns Nw ∧ Nw.length = j ∧ (∀ x ∈ Nw, x ∈ kvs.map (·.1) ∧ x ∉ fkv.map (·.1)) ∧ ∀ o ∈ os.take j, ∃ l, o = some l ∧ ∃ x ∈ l, x ∈ Nw) ⟨kB, [], [], _, _, _, rfl, eDb, by rw [List.append_nil]; exact eLb, its0b, .nil, rfl, by simp, by simp⟩ (fun i σ H' _ I => SqL.of (I.1.lst hq)) ?_ ?_⟩
      · rintro j z σ HC hz ⟨kC, Nw, ns, o7, o8, o9, rfl, eDc, eLc, itsC, itn, nl, nk, nh⟩
        obtain ⟨o, ho, av⟩ := Paired.at' pr hz
        obtain ⟨ll, rfl, l1, lk, x0, hx0, hx1⟩ := okO o (List.mem_of_getElem? ho)
        have jlt : j < os.length := (List.getElem?_eq_some_iff.mp ho).1
        obtain ⟨bl, zs, rfl, ebl, itz⟩ := AnsV.kp av kC
        refine ⟨_, rfl, bl, rfl, ⟨_, SqL.of ebl⟩, fun E1 hE1 => ?_⟩
        refine turns_list (xs := zs) (fun i H' => AccI HC E1 IT ((ll.take i).filter fun m => !decide (m ∈ fkv.map (·.1))) H') (AccI.zero hE1) (fun i H' I => SqL.of (I.1.lst ebl)) ?_ ?_
        · intro i y1 H' hy1 I
          obtain ⟨x, hx, itx⟩ := Paired.at' itz hy1
          have itx := itx.kp I.1
          have kI := kC.trans I.1
          refine ⟨rfl, _, rfl, _, rfl, a, C, dx, _, .ref N, rfl, kI.ins ea, FC.cl, FC.within, rfl, N, _, rfl, DR.get (rN kI) itx, ⟨_, rfl, ?_⟩⟩
          rw [val_mem]
          refine ite_b (fun hb => ⟨_, rfl, ?_⟩) fun hb => ?_
          · exact I.push stab_it hE1 (Kp.refl _) itx (sl (Nat.le_trans (List.length_filter_le _ _) (by rw [List.length_take]; omega))) (by rw [take_more hx]; exact fil_yes hb)
          · exact I.keep stab_it (Kp.refl _) (by rw [take_more hx]; exact fil_no hb)
        rintro HD ⟨kD1, acc1, hacc1, p1⟩
        rw [itz.length, List.take_length] at p1
        have eD1 := kD1.dT eDc
        have eDs : HD D = some (.dT (kP ((S ++ [pk]).map fun m => (m, V.bl true)))) := by rw [← kS_kP]; exact eD1
        refine ⟨_, rfl, E1, rfl, ⟨_, SqL.of hacc1⟩, fun E2 hE2 => ?_⟩
        have safeL : (ll.filter fun m => !decide (m ∈ fkv.map (·.1))).length ≤ 1000 := Nat.le_trans (List.length_filter_le _ _) l1
        generalize hsafe : (ll.filter fun m => !decide (m ∈ fkv.map (·.1))) = safe at *
        refine turns_list (xs := acc1) (fun i H' => AccI HD E2 IT ((safe.take i).filter fun m => decide (m ∈ S ++ [pk])) H') (AccI.zero hE2) (fun i H' I => SqL.of (I.1.lst hacc1)) ?_ ?_
        · intro i y1 H' hy1 I
          obtain ⟨x, hx, itx⟩ := Paired.at' p1 hy1
          have itx := itx.kp I.1
          refine ⟨rfl, _, rfl, _, rfl, D, _, rfl, DR.get (.inl (I.1.dT eDs)) itx, ⟨_, rfl, ?_⟩⟩
          rw [val_mem, List.map_map, show ((fun x : List Nat × V => x.1) ∘ fun m : List Nat => (m, V.bl true)) = id from rfl, List.map_id]
          refine ite_b (fun hb => ⟨_, rfl, ?_⟩) fun hb => ?_
          · exact I.push stab_it hE2 (Kp.refl _) itx (sl (Nat.le_trans (List.length_filter_le _ _) (by rw [List.length_take]; omega))) (by rw [take_more hx]; exact fil_yes hb)
          · exact I.keep stab_it (Kp.refl _) (by rw [take_more hx]; exact fil_no hb)
        rintro HE ⟨kE1, acc2, hacc2, p2'⟩
        rw [p1.length, List.take_length] at p2'
        have heldL : (safe.filter fun m => decide (m ∈ S ++ [pk])).length ≤ 1000 := Nat.le_trans (List.length_filter_le _ _) safeL
        have kEE := (kC.trans kD1).trans kE1
        have eLe := kE1.lst (kD1.lst eLc)
        refine ⟨_, rfl, .inl ⟨rfl, _, SqL.of eLe⟩, _, rfl, _, rfl, E2, E1, _, _, rfl, rfl, hacc2, kE1.lst hacc1, by rw [p2'.length, p1.length, sizeLine_eq]; omega, fun pc hpc => ?_⟩
        have kF : Kp HE (upd HE pc (.lst (acc2 ++ acc1))) := Kp.new hpc
        have nzs : safe ≠ [] := by
          intro z
          rw [z] at hsafe
          have := List.filter_eq_nil_iff.mp hsafe x0 hx0
          simp only [Bool.not_eq_true', decide_eq_false_iff_not] at this
          exact this hx1
        have pall : ITs (upd HE pc (.lst (acc2 ++ acc1))) (acc2 ++ acc1) ((safe.filter fun m => decide (m ∈ S ++ [pk])) ++ safe) := Paired.app (ITs.tk p2' kF.tk) (ITs.tk (ITs.tk p1 kE1.tk) kF.tk)
        obtain ⟨y0, x1, hy0, hx2, ity⟩ : ∃ y0 x1, (acc2 ++ acc1)[0]? = some y0 ∧ x1 ∈ safe ∧ IT (upd HE pc (.lst (acc2 ++ acc1))) y0 x1 := by
          obtain ⟨y0, x1, e1, e2, q⟩ := paired_head pall (by simp [nzs])
          refine ⟨y0, x1, e1, ?_, q⟩
          rcases List.mem_append.mp (List.mem_of_getElem? e2) with z | z
          · exact (List.mem_filter.mp z).1
          · exact z
        refine ⟨pc, _, 0, y0, rfl, rfl, SqL.of upd_same, atI_nat (j := 0) hy0, ?_⟩
        have eLf := kF.lst eLe
        have x1k : x1 ∈ ll ∧ x1 ∉ fkv.map (·.1) := by
          rw [← hsafe] at hx2
          have := List.mem_filter.mp hx2
          exact ⟨this.1, by simpa using this.2⟩
        have tF : Tk (upd HE pc (.lst (acc2 ++ acc1))) (upd (upd HE pc (.lst (acc2 ++ acc1))) La (.lst ((vs0 ++ ns) ++ [y0]))) := Tk.lst eLf
        have tkE : Tk HC (upd HE pc (.lst (acc2 ++ acc1))) := (kD1.tk.trans kE1.tk).trans kF.tk
        refine ⟨La, _, y0, rfl, rfl, eLf, ?_, ?_⟩
        · rw [List.length_append, itsC.length, itn.length, sizeLine_eq]
          omega
        · refine ⟨(kEE.trans kF).put hq2, Nw ++ [x1], ns ++ [y0], _, _, _, rfl, ?_, ?_, (itsC.tk tkE).tk tF, Paired.snoc ((itn.tk tkE).tk tF) (ity.tk tF), ?_, fun x hx => ?_, fun o ho2 => ?_⟩
          · rw [upd_ne nDL]
            exact kF.dT (kE1.dT eD1)
          · rw [List.append_assoc]
            exact upd_same
          · rw [List.length_append, nl]
            rfl
          · rcases List.mem_append.mp hx with hx | hx
            · exact nk x hx
            · rw [List.mem_singleton.mp hx]
              exact ⟨lk x1 x1k.1, x1k.2⟩
          · rw [take_more ho, List.mem_append, List.mem_singleton] at ho2
            rcases ho2 with ho2 | rfl
            · obtain ⟨l, e, x, hx, q⟩ := nh o ho2
              exact ⟨l, e, x, hx, by simp [q]⟩
            · exact ⟨ll, rfl, x1, x1k.1, by simp⟩
      · rintro σ HC ⟨kC, Nw, ns, o7, o8, o9, rfl, eDc, eLc, itsC, itn, nl, nk, nh⟩
        rw [pr.length, List.take_length] at nh
        rw [pr.length] at nl
        refine ⟨_, ?_, kC, S ++ [pk], L0 ++ Nw, vs0 ++ ns, _, _, _, _, rfl, eDc, eLc, Paired.app itsC itn, told.take hmS nk (by rw [hos]; exact nh), ?_, rfl⟩
        · rw [List.length_append, List.length_append, List.length_append, List.length_singleton, nl]
          have e1 : (U - S.length) * (Bd + 1) = (U - (S.length + 1)) * (Bd + 1) + (Bd + 1) := by
            rw [← Nat.succ_mul]
            congr 1
            omega
          omega
        · rw [List.length_append, List.length_append, List.length_singleton, Nat.succ_mul, nl]
          omega
    · have hmS : m ∈ S := by simpa using hb2
      rw [← kS_kP] at eDp
      refine ⟨_, ?_, kPop, S, L0, vs0, _, _, _, _, rfl, eDp, eLp, its0p, told.skip hmS, ?_, rfl⟩
      · rw [List.length_append, List.length_singleton]
        omega
      · rw [List.length_append, List.length_singleton] at sz8
        omega
  · have hL : L = [] := by simpa using hb
    subst hL
    have k8e : Kp H8 (upd H8 e (.lst [])) := Kp.new he
    have kp9 := kp8.trans k8e
    have eD9 := k8e.dT eD8
    generalize upd H8 e (.lst []) = H9 at *
    have held := told.done fnd
    have lib9 := (lib.kp kA).kp kp9
    obtain ⟨la, lb, lxs, rfl, le1, le2, lits⟩ := lib9
    refine ⟨D, _, eD9, True.intro, fun od => ⟨_, rfl, D, od, rfl, .inr ⟨_, upd_same, fun E hE => ?_⟩⟩⟩
    have t9 : Tk H9 (upd H9 D (.frz od (.dT (kS S)))) := Tk.dT eD9
    have le9 := t9 _ _ le1
    refine turns_keys (o := od) (kvs := kS S) (fun i H' => AccI (upd H9 D (.frz od (.dT (kS S)))) E (fun H v l => Lib H v t l) ((S.take i).map fun m => m.map tabletOf) H') (AccI.zero hE) (fun i H' I => I.1.frz upd_same) ?_ ?_
    · rintro i kk vv q H' hkv hq I
      obtain ⟨m, hm, ekv⟩ := map_at hkv
      cases ekv
      have it : IT H' (.ref q) m := IT.of_key hq
      have fm := sK m (.inl (List.mem_of_getElem? hm))
      refine ⟨rfl, yes2 ⟨_, rfl, la, _, 0, _, rfl, rfl, SqT.of (I.1.tup le9), atI_nat (j := 0) rfl, _, rfl, rfl, (t, m), ⟨_, rfl, it, ?_⟩, ?_⟩⟩
      · show m.length ≤ 1000
        rw [fm.1, ← hn]
        have := g.l6
        omega
      · intro u2 HB kB lb2
        refine I.push (fun _ _ _ _ k h => Lib.tk h k) hE kB lb2 (sl ?_) (by rw [take_more hm, List.map_append]; rfl)
        rw [List.length_map, List.length_take]
        refine Nat.le_trans (Nat.min_le_right _ _) (Nat.le_trans sU ?_)
        rw [← hU]
        exact Nat.le_trans (Nat.pow_le_pow_left (Nat.le_trans (Nat.pow_le_pow_right (by decide) g.t3) (by decide : (2 : Nat) ^ 3 ≤ 8)) n) (Nat.le_trans (Nat.pow_le_pow_right (by decide) (by rw [← hn]; exact g.l6)) (by decide))
    · rintro HB ⟨kB, acc, hacc, pr⟩
      rw [kS_len, List.take_length] at pr
      refine ⟨kB.frz upd_same, ?_⟩
      have kU : Kp H9 (upd HB D (.dT (kS S))) := Kp.unlock eD9 (fun ps z => by cases z) kB
      have nED : E ≠ D := by
        rintro rfl
        rw [upd_same] at hE
        cases hE
      have tU : Tk HB (upd HB D (.dT (kS S))) := Tk.frz (kB.frz upd_same)
      have hacc2 : upd HB D (.dT (kS S)) E = some (.lst acc) := by rw [upd_ne nED]; exact hacc
      have pr2 : Libs (upd HB D (.dT (kS S))) t acc (S.map fun m => m.map tabletOf) := Libs.tk pr tU
      generalize upd HB D (.dT (kS S)) = HU at *
      refine ⟨_, rfl, E, _, rfl, .inl (SqL.of hacc2), _, pr2.dp, srt_lib t _, fun p hp => ?_⟩
      refine ⟨p, _, rfl, .inl ⟨SqL.of upd_same, fun q hq => ?_⟩⟩
      have k1' : Kp HU (upd HU p (.lst (sortV acc ((S.map fun m => m.map tabletOf).map (libD t))))) := Kp.new hp
      refine k _ _ (((kA.trans kp9).trans kU).trans (k1'.trans (Kp.new hq))) ⟨some S, ⟨q, _, rfl, upd_same, ?_⟩, (by intro z; cases z), (by intro S' z; cases z; exact ⟨held, fun z => hn1 (lost_iff.mp z)⟩)⟩
      exact (sortV_lib pr2).tk (k1'.tk.trans (Kp.new hq).tk)
end
end MX
end

section
set_option Elab.async false
set_option linter.all false
set_option maxRecDepth 100000
set_option maxHeartbeats 4000000
namespace MX
open PySem PySem.Spec PyProof.Rows L2
/-- one loss is answered within there -/
def okA (there : List (List Nat)) : Option (List (List Nat)) → Bool
  | none => false
  | some l => !(l.filter fun m => decide (m ∈ there)).isEmpty
def heldB (t most melts : Nat) (there : List (List Nat)) (m : List Nat) : Bool := (ansOf t most melts m).all (okA there)
section
variable {P : Program} {w : World} {K : PySem.W.Frag} {mg : Str → Option Value} {base : Heap} {f c C : Addr} {fd : FuncData}
abbrev st_is_held : Stmt := topS 36
abbrev N_is_held : List Str := ["texts", "there", "masks", "most", "melts", "left", "other"]
theorem sc_is_held : FnScope N_is_held ["texts", "there", "masks", "most", "melts"] (defScope st_is_held) := ⟨rfl, rfl, rfl, by decide +kernel, rfl, by decide +kernel, by decide +kernel⟩
def sp_is_held : Sp := spR 5 (fun vs H (x : (Nat × Nat × Nat) × List (List Nat × V) × List Nat) => ∃ u v, vs = [nV x.1.1, u, v, nV x.1.2.1, nV x.1.2.2] ∧ DR H u x.2.1 ∧ IT H v x.2.2 ∧ x.1.1 ≤ 3 ∧ x.1.2.2 ≤ 3 ∧ x.2.2.length ≤ 6 ∧ ∀ m ∈ x.2.2, m < 8) fun x v _ => v = .bl (heldB x.1.1 x.1.2.1 x.1.2.2 (x.2.1.map (·.1)) x.2.2)
theorem cal_is_held (F : FunC K mg "is_held" st_is_held f fd c) (B : Bi mg) (C_chosen : Cal P w K mg base 1 "chosen" ["masks", "many"] sp_chosen) (C_has_all : Cal P w K mg base 2 "has_all" ["texts", "masks"] sp_has_all) (C_filled : Cal P w K mg base 5 "filled" ["left", "many", "most"] sp_filled) : Cal P w K mg base 6 "is_held" ["texts", "there", "masks", "most", "melts"] sp_is_held := by
  refine F.cal sc_is_held spR_len (fun _ _ _ _ _ _ us hl => match us, hl with | [_, _, _, _, _], _ => rfl) (fun A outer s H vs Q hr h => ?_) spR_E
  refine ⟨_, (pss_cons (ps_for PassesOwn.never rfl (pi_listK K (hl := (pe_cal C_chosen hr (by decide) (by rfl) (pa_cons (pv 2) (pa_cons (pv 4) pa_nil))))) (pg_name (i := 5) sc_is_held.nd rfl (by first | exact Or.inl rfl | exact Or.inr rfl)) (pss_cons (ps_if (pt_not (pt_val (pe_cal C_has_all hr (by decide) (by rfl) (pa_cons (pv 0) (pa_cons (pv 5) pa_nil))))) (pss_one (ps_ret pe_bl)) pss_nil)
  (pss_one (ps_if (pt_cmpR (op_eqDK K (hu := hr.units)) (pe_lc (own := [("other", 6)]) rfl sc_is_held.nd (pi_listK K (hl := (pe_cal C_filled hr (by decide) (by rfl) (pa_cons (pv 5) (pa_cons (pv 4) (pa_cons (pv 3) pa_nil)))))) (blkOk_by (own := [("other", 6)]) (N := N_is_held) (sc := defScope st_is_held) (by decide +kernel)) (fun _ _ _ _ _ => (pg_name (i := 6) sc_is_held.nd rfl (by first | exact Or.inl rfl | exact Or.inr rfl))) (fun _ _ _ _ _ => (pts_one (pt_cmp (pc_din (hu_of hr) (pv 6) (pv 1))))) (fun _ _ _ _ _ => (pv 6))) (pe_lst pa_nil) (nomark _)) (pss_one (ps_ret pe_bl)) pss_nil))))
  (pss_one (ps_ret pe_bl))), ?_⟩
  obtain ⟨_, ⟨⟨t, most, melts⟩, kvs, x⟩, ⟨u, v, rfl, dr, it, t3, m3, x6, x8⟩, k⟩ := h
  dsimp only at dr it t3 m3 x6 x8
  refine ⟨_, rfl, _, rfl, rfl, (x, melts), ⟨v, rfl, it, x6, m3⟩, ?_⟩
  rintro _ H1 k1 ⟨r, vs, rfl, hr0, er, its⟩
  dsimp only at its
  have aL : (ansOf t most melts x).length = (chosen x melts).length := by unfold ansOf; rw [List.length_map]
  have c8 := chosen_ok x6 x8 melts
  have an := ans_small (t := t) (most := most) x6 x8 m3
  refine ⟨r, rfl, ⟨_, SqL.of er⟩, for_list (K := K) (a := r) (xs := vs) (fun i σ H' => Kp H1 H' ∧ (∃ o5 , σ = [some (nV t), some u, some v, some (nV most), some (nV melts), o5, none]) ∧ ((ansOf t most melts x).take i).all (okA (kvs.map (·.1))) = true) ⟨Kp.refl _, ⟨_, rfl⟩, rfl⟩ (fun i σ H' _ I => SqL.of (I.1.lst er)) ?_ ?_⟩
  · rintro i y σ H' hy ⟨kp, ⟨o5, rfl⟩, ok⟩
    obtain ⟨left, hleft, itl⟩ := Paired.at' its hy
    obtain ⟨l6, l8⟩ := c8 left (List.mem_of_getElem? hleft)
    have itl := itl.kp kp
    have ho : (ansOf t most melts x)[i]? = some (if hasAll t left then some (filled left melts most) else none) := by unfold ansOf; rw [List.getElem?_map, hleft]; rfl
    have ta : ((ansOf t most melts x).take (i + 1)).all (okA (kvs.map (·.1))) = okA (kvs.map (·.1)) (if hasAll t left then some (filled left melts most) else none) := by
      rw [take_more ho, List.all_append, ok, Bool.true_and]
      simp
    have fin : ∀ H2, Kp H' H2 → okA (kvs.map (·.1)) (if hasAll t left then some (filled left melts most) else none) = false → Q (.bl false) H2 := fun H2 k2 hb => by
      refine k _ _ ((k1.trans kp).trans k2) ?_
      dsimp only
      congr 1
      refine (List.all_eq_false.mpr ⟨_, List.mem_of_getElem? ho, by rw [hb]; decide⟩).symm
    refine ⟨_, rfl, _, rfl, rfl, (t, left), ⟨y, rfl, itl, Nat.le_trans l6 (by decide), Nat.le_trans t3 (by decide)⟩, ?_⟩
    rintro _ H3 k3 rfl
    refine ⟨_, rfl, ?_⟩
    dsimp only
    cases hb : hasAll t left with
    | false =>
      refine ifT rfl (fin H3 k3 ?_)
      rw [hb]
      rfl
    | true =>
      rw [hb] at ta ho
      rw [if_pos rfl] at ta ho
      refine ifF rfl ?_
      refine ⟨_, rfl, _, rfl, _, rfl, rfl, (left, melts, most), ⟨y, rfl, itl.kp k3, l6, m3, l8⟩, ?_⟩
      rintro _ H4 k4 ⟨q, ws, rfl, hq0, hq, itq⟩
      dsimp only at itq
      have l1 := (an _ (List.mem_of_getElem? ho) _ rfl).1
      have k34 := k3.trans k4
      refine ⟨q, rfl, ⟨_, SqL.of hq⟩, fun D hD => ?_⟩
      refine turns_list (xs := ws) (fun j H2 => AccI H4 D IT (((filled left melts most).take j).filter fun m => decide (m ∈ kvs.map (·.1))) H2) (AccI.zero hD) (fun j H2 I => SqL.of (I.1.lst hq)) ?_ ?_
      · intro j z H2 hz I
        obtain ⟨m, hm, itm⟩ := Paired.at' itq hz
        have itm := itm.kp I.1
        obtain ⟨d, eu, rd⟩ := dr.kp (((k1.trans kp).trans k34).trans I.1)
        refine ⟨rfl, _, rfl, _, rfl, d, _, eu, DR.get rd itm, ?_⟩
        rw [val_mem]
        refine ⟨_, rfl, ite_b (fun hb => ⟨_, rfl, ?_⟩) fun hb => ?_⟩
        · exact I.push stab_it hD (Kp.refl _) itm (sl (Nat.le_trans (List.length_filter_le _ _) (by rw [List.length_take]; omega))) (by rw [take_more hm]; exact fil_yes hb)
        · exact I.keep stab_it (Kp.refl _) (by rw [take_more hm]; exact fil_no hb)
      · rintro H2 ⟨k2, acc, hacc, p⟩
        rw [itq.length, List.take_length] at p
        refine ⟨Nat.zero_le _, fun e he => ?_⟩
        refine eq_nil (a := D) (b := e) (by rw [upd_ne (ne_of_none hacc he)]; exact hacc) (ITs.tk p (Tk.new he)) upd_same ?_
        have k5 := k34.trans (k2.trans (Kp.new (o := .lst []) he))
        refine ⟨_, rfl, ite_b (fun hb2 => fin _ k5 (by rw [hb]; show (!_) = false; rw [hb2]; rfl)) fun hb2 => ⟨kp.trans k5, ⟨_, rfl⟩, by rw [ta]; show (!_) = true; rw [hb2]; rfl⟩⟩
  · rintro σ H' ⟨kp, ⟨o5, rfl⟩, ok⟩
    rw [its.length, List.take_of_length_le (Nat.le_of_eq aL)] at ok
    exact k _ _ (k1.trans kp) (by dsimp only; unfold heldB; rw [ok])
abbrev st_is_flood_scheme : Stmt := topS 38
abbrev N_is_flood_scheme : List Str := ["library", "most", "melts", "masks"]
theorem sc_is_flood_scheme : FnScope N_is_flood_scheme ["library", "most", "melts"] (defScope st_is_flood_scheme) := ⟨rfl, rfl, rfl, by decide +kernel, rfl, by decide +kernel, by decide +kernel⟩
def sp_is_flood_scheme (T1 T2 : Addr) : Sp := spR 3 (fun vs H (x : Nat × List (List Nat) × Nat × Nat) => ∃ v, vs = [v, nV x.2.2.1, nV x.2.2.2] ∧ Lib H v x.1 x.2.1 ∧ Ask x.1 x.2.1 x.2.2.1 x.2.2.2 ∧ GxR.TabG H T1 ∧ GxR.TabG H T2) fun x v _ => v = .bl (hasAll x.1 (firstOf x.2.1) && heldB x.1 x.2.2.1 x.2.2.2 [firstOf x.2.1] (firstOf x.2.1))
theorem cal_is_flood_scheme {T1 T2 : Addr} (F : FunC K mg "is_flood_scheme" st_is_flood_scheme f fd c) (B : Bi mg) (C_need_flood : Cal P w K mg base 6 "need_flood" ["library", "most", "melts"] (sp_need_flood T1 T2)) (C_masks_of : Cal P w K mg base 2 "masks_of" ["library"] sp_masks_of) (C_in_order : Cal P w K mg base 4 "in_order" ["masks"] sp_in_order) (C_has_all : Cal P w K mg base 2 "has_all" ["texts", "masks"] sp_has_all) (C_is_held : Cal P w K mg base 6 "is_held" ["texts", "there", "masks", "most", "melts"] sp_is_held) : Cal P w K mg base 7 "is_flood_scheme" ["library", "most", "melts"] (sp_is_flood_scheme T1 T2) := by
  refine F.cal sc_is_flood_scheme spR_len (fun _ _ _ _ _ _ us hl => match us, hl with | [_, _, _], _ => rfl) (fun A outer s H vs Q hr h => ?_) spR_E
  refine ⟨_, (pss_cons (ps_expr (pe_cal C_need_flood hr (by decide) (by rfl) (pa_cons (pv 0) (pa_cons (pv 1) (pa_cons (pv 2) pa_nil)))))
  (pss_cons (ps_set (i := 3) sc_is_flood_scheme.nd rfl (Or.inl rfl) (pe_cal C_in_order hr (by decide) (by rfl) (pa_cons (pe_cal C_masks_of hr (by decide) (by rfl) (pa_cons (pv 0) pa_nil)) pa_nil)))
  (pss_cons (ps_if (pt_not (pt_val (pe_cal C_has_all hr (by decide) (by rfl) (pa_cons (pe_ix (ix_tupK K) (pv 0) pe_int (fun _ _ => rfl)) (pa_cons (pv 3) pa_nil))))) (pss_one (ps_ret pe_bl)) pss_nil)
  (pss_one (ps_ret (pe_cal C_is_held hr (by decide) (by rfl) (pa_cons (pe_ix (ix_tupK K) (pv 0) pe_int (fun _ _ => rfl)) (pa_cons (pe_disp1T hr.units0 (pv 3) pe_bl) (pa_cons (pv 3) (pa_cons (pv 1) (pa_cons (pv 2) pa_nil))))))))))), ?_⟩
  obtain ⟨_, ⟨t, l, most, melts⟩, ⟨v, rfl, lib, ⟨g, h1, h2, h3, h4, h5, cap⟩, tab1, tab2⟩, k⟩ := h
  dsimp only at lib g h1 h2 h3 h4 h5 cap
  refine ⟨_, rfl, _, rfl, _, rfl, rfl, (t, l, most, melts), ⟨v, rfl, lib, g, h1, h2, h3, h4, h5, tab1, tab2⟩, ?_⟩
  rintro _ H1 k1 rfl
  refine ⟨_, rfl, rfl, (t, l), ⟨v, rfl, lib.kp k1, lib_ok g⟩, ?_⟩
  rintro u1 H2 k2 iu1
  refine ⟨rfl, l.map maskOf, ⟨u1, rfl, .inl iu1⟩, ?_⟩
  rintro u H3 k3 iu
  have iu : IT H3 u (firstOf l) := iu
  have ff := order_fit (lib_fit g)
  have fl : (firstOf l).length = l.length := ff.1
  have f8 : ∀ m ∈ firstOf l, m < 8 := fun m hm => Nat.lt_of_lt_of_le (ff.2 m hm) (Nat.le_trans (Nat.pow_le_pow_right (by decide) g.t3) (by decide))
  have kp3 := (k1.trans k2).trans k3
  obtain ⟨la, lb, lxs, rfl, le1, le2, lits⟩ := lib.kp kp3
  refine ⟨_, rfl, la, _, 0, _, rfl, rfl, SqT.of le1, atI_nat (j := 0) rfl, _, rfl, rfl, (t, firstOf l), ⟨u, rfl, iu, by rw [fl]; exact Nat.le_trans g.l6 (by decide), Nat.le_trans g.t3 (by decide)⟩, ?_⟩
  rintro _ H4 k4 rfl
  refine ⟨_, rfl, ?_⟩
  dsimp only
  cases hb : hasAll t (firstOf l) with
  | false => exact ifT rfl (k _ _ (kp3.trans k4) (by dsimp only; rw [hb]; rfl))
  | true =>
    refine ifF rfl ?_
    obtain ⟨b, rfl, hbk⟩ := (iu.kp k4).key
    refine ⟨_, rfl, la, _, 0, _, rfl, rfl, SqT.of (k4.tup le1), atI_nat (j := 0) rfl, ?_⟩
    intro p hp
    have kp5 : Kp H4 (upd H4 p (.dT [])) := Kp.new hp
    refine ⟨_, rfl, upd_same, kM (firstOf l), b, rfl, kp5.tup hbk, ?_⟩
    have kq : Kp H4 (upd (upd H4 p (.dT [])) p (.dT [(kM (firstOf l), .bl true)])) := kp5.put hp
    refine ⟨_, rfl, _, rfl, _, rfl, rfl, ((t, most, melts), [(firstOf l, .bl true)], firstOf l), ⟨_, _, rfl, ⟨p, rfl, .inl upd_same⟩, (iu.kp k4).kp kq, g.t3, h4, by show (firstOf l).length ≤ 6; rw [fl]; exact g.l6, f8⟩, ?_⟩
    rintro _ H5 k5 rfl
    refine k _ _ ((kp3.trans k4).trans (kq.trans k5)) ?_
    dsimp only
    rw [hb]
    rfl
end
end MX
end

section
set_option Elab.async false
set_option linter.all false
set_option maxRecDepth 100000
set_option maxHeartbeats 4000000
namespace MX
open PySem PySem.Spec PyProof.Rows L2
theorem srows_fit (t : Nat) : ∀ n, ∀ r ∈ sortedRows t n, Fit t n r
  | 0 => by simp [sortedRows, iter, Fit]
  | n + 1 => by
    intro r hr
    change r ∈ (sortedRows t n).flatMap (moreRows t) at hr
    obtain ⟨q, hq, h⟩ := List.mem_flatMap.mp hr
    unfold moreRows at h
    obtain ⟨m, hm, rfl⟩ := List.mem_map.mp h
    have fq := srows_fit t n q hq
    refine ⟨by rw [List.length_append, fq.1]; rfl, fun y hy => ?_⟩
    rcases List.mem_append.mp hy with hy | hy
    · exact fq.2 y hy
    · rw [List.mem_singleton.mp hy]
      have := (List.mem_filter.mp hm).1
      unfold everyOf at this
      have := List.mem_range.mp ((inOrder_perm _).mem_iff.mp this)
      rw [Nat.shiftLeft_eq, Nat.one_mul] at this
      exact this
/-- a scheme of one place -/
def schemeB (t most melts : Nat) (m : List Nat) : Bool := hasAll t m && heldB t most melts [m] m
def schemesOf (t n most melts : Nat) : List (List (List Nat)) := ((sortedRows t n).filter (schemeB t most melts)).map fun m => m.map tabletOf
theorem stab_libt (t : Nat) : Stab fun H v (l : List (List Nat)) => Lib H v t l := fun _ _ _ _ k h => h.tk k
section
variable {P : Program} {w : World} {K : PySem.W.Frag} {mg : Str → Option Value} {base : Heap} {f c C : Addr} {fd : FuncData}
abbrev st_flood_schemes : Stmt := topS 39
abbrev N_flood_schemes : List Str := ["texts", "tablets", "most", "melts", "found", "masks"]
theorem sc_flood_schemes : FnScope N_flood_schemes ["texts", "tablets", "most", "melts"] (defScope st_flood_schemes) := ⟨rfl, rfl, rfl, by decide +kernel, rfl, by decide +kernel, by decide +kernel⟩
def sp_flood_schemes : Sp := spR 4 (fun vs H (x : Nat × Nat × Nat × Nat) => vs = [nV x.1, nV x.2.1, nV x.2.2.1, nV x.2.2.2] ∧ 1 ≤ x.1 ∧ x.1 ≤ 3 ∧ 1 ≤ x.2.1 ∧ x.2.1 ≤ 4 ∧ 1 ≤ x.2.2.1 ∧ x.2.2.1 ≤ 3 ∧ 1 ≤ x.2.2.2 ∧ x.2.2.2 ≤ 3 ∧ x.2.2.2 ≤ x.2.1) fun x v H => FamV H v x.1 (some (schemesOf x.1 x.2.1 x.2.2.1 x.2.2.2))
theorem cal_flood_schemes (F : FunC K mg "flood_schemes" st_flood_schemes f fd c) (B : Bi mg) (C_is_number : Cal P w K mg base 1 "is_number" ["value", "low", "high"] sp_is_number) (C_need_sizes : Cal P w K mg base 3 "need_sizes" ["texts", "tablets", "most"] sp_need_sizes) (C_sorted_rows : Cal P w K mg base 4 "sorted_rows" ["texts", "tablets"] sp_sorted_rows) (C_has_all : Cal P w K mg base 2 "has_all" ["texts", "masks"] sp_has_all) (C_is_held : Cal P w K mg base 6 "is_held" ["texts", "there", "masks", "most", "melts"] sp_is_held) (C_library_of : Cal P w K mg base 2 "library_of" ["texts", "masks"] sp_library_of) : Cal P w K mg base 7 "flood_schemes" ["texts", "tablets", "most", "melts"] sp_flood_schemes := by
  refine F.cal sc_flood_schemes spR_len (fun _ _ _ _ _ _ us hl => match us, hl with | [_, _, _, _], _ => rfl) (fun A outer s H vs Q hr h => ?_) spR_E
  refine ⟨_, (pss_cons (ps_expr (pe_cal C_need_sizes hr (by decide) (by rfl) (pa_cons (pv 0) (pa_cons (pv 1) (pa_cons (pv 2) pa_nil)))))
  (pss_cons (ps_if (pt_not (pt_val (pe_cal C_is_number hr (by decide) (by rfl) (pa_cons (pv 3) (pa_cons pe_int (pa_cons (pe_callB (call_min2 rfl) (by rfl) B.min boot_min (pa_cons (pe_glob (v := .int 3) (by rfl) B.mmelts.choose_spec ⟨_, rfl⟩) (pa_cons (pv 1) pa_nil))) pa_nil)))))) (pss_one ps_never) pss_nil)
  (pss_cons (ps_set (i := 4) sc_flood_schemes.nd rfl (Or.inl rfl) (pe_lst pa_nil))
  (pss_cons (ps_for PassesOwn.never rfl (pi_listK K (hl := (pe_cal C_sorted_rows hr (by decide) (by rfl) (pa_cons (pv 0) (pa_cons (pv 1) pa_nil))))) (pg_name (i := 5) sc_flood_schemes.nd rfl (by first | exact Or.inl rfl | exact Or.inr rfl)) (pss_one (ps_if (PW.pt (pw_and (pt_val (pe_cal C_has_all hr (by decide) (by rfl) (pa_cons (pv 0) (pa_cons (pv 5) pa_nil)))) (pw_and1 (pt_val (pe_cal C_is_held hr (by decide) (by rfl) (pa_cons (pv 0) (pa_cons (pe_disp1T hr.units0 (pv 5) pe_bl) (pa_cons (pv 5) (pa_cons (pv 2) (pa_cons (pv 3) pa_nil)))))))))) (pss_one (ps_expr (pe_bm PySem.F.plainAttrs_list PySem.F.slot_list_append PySem.F.type_list_append mt_append (pv 4) (pa_cons (pe_cal C_library_of hr (by decide) (by rfl) (pa_cons (pv 0) (pa_cons (pv 5) pa_nil))) pa_nil)))) pss_nil)))
  (pss_one (ps_ret (pe_callTy (call_tuple_ofK K) (by rfl) B.tuple boot_tuple (pa_cons (pv 4) pa_nil)))))))), ?_⟩
  obtain ⟨_, ⟨t, n, most, melts⟩, ⟨rfl, t1, t3, n1, n4, h1, h2, h3, h4, h5⟩, k⟩ := h
  dsimp only at t1 t3 n1 n4 h1 h2 h3 h4 h5
  have t8 : 2 ^ t ≤ 8 := Nat.le_trans (Nat.pow_le_pow_right (by decide) t3) (by decide)
  refine ⟨_, rfl, _, rfl, _, rfl, rfl, (t, n, most), ⟨rfl, t1, t3, n1, by show n ≤ 6; omega, h1, h2⟩, ?_⟩
  rintro _ H1 k1 rfl
  refine ⟨_, rfl, _, rfl, _, _, rfl, rfl, (melts, 1, if (n : Int) < 3 then (n : Int) else 3), rfl, ?_⟩
  rintro _ H2 k2 rfl
  have c1 : (decide ((1 : Int) ≤ (melts : Int)) && decide ((melts : Int) ≤ if (n : Int) < 3 then (n : Int) else 3)) = true := by
    simp only [Bool.and_eq_true, decide_eq_true_eq]
    refine ⟨by omega, ?_⟩
    split <;> omega
  refine ⟨_, rfl, ifF (by rw [c1]; rfl) ?_⟩
  refine ⟨Nat.zero_le _, fun D hD => ?_⟩
  have kD : Kp H2 (upd H2 D (.lst [])) := Kp.new hD
  refine ⟨_, rfl, _, rfl, rfl, (t, n), ⟨rfl, t3, n4⟩, ?_⟩
  rintro _ H3 k3 ⟨r, vs, rfl, hr0, er, its⟩
  dsimp only at its
  have nrD : r ≠ D := by
    rintro rfl
    rw [upd_same] at hr0
    cases hr0
  have sl4 : (sortedRows t n).length ≤ 4096 := by
    refine Nat.le_trans (srows_len t n) ?_
    rw [Nat.shiftLeft_eq, Nat.one_mul]
    exact Nat.le_trans (Nat.pow_le_pow_left t8 n) (Nat.le_trans (Nat.pow_le_pow_right (by decide) n4) (by decide))
  have kp0 := k1.trans k2
  refine ⟨r, rfl, ⟨_, SqL.of er⟩, for_list (K := K) (a := r) (xs := vs) (fun i σ H' => H' r = some (.lst vs) ∧ ITs H' vs (sortedRows t n) ∧ (∃ o5, σ = [some (nV t), some (nV n), some (nV most), some (nV melts), some (.ref D), o5]) ∧ AccI H2 D (fun H v l => Lib H v t l) ((((sortedRows t n).take i).filter (schemeB t most melts)).map fun m => m.map tabletOf) H') ⟨er, its, ⟨_, rfl⟩, kD.trans k3, [], k3.lst upd_same, .nil⟩ (fun i σ H' _ I => SqL.of I.1) ?_ ?_⟩
  · rintro i y σ H' hy ⟨er', its', ⟨o5, rfl⟩, acc⟩
    obtain ⟨m, hm, it⟩ := Paired.at' its' hy
    have fm := srows_fit t n m (List.mem_of_getElem? hm)
    have no : ∀ H5, Kp H' H5 → schemeB t most melts m = false → H5 r = some (.lst vs) ∧ ITs H5 vs (sortedRows t n) ∧ (∃ o5, [some (nV t), some (nV n), some (nV most), some (nV melts), some (.ref D), some y] = [some (nV t), some (nV n), some (nV most), some (nV melts), some (.ref D), o5]) ∧ AccI H2 D (fun H v l => Lib H v t l) ((((sortedRows t n).take (i + 1)).filter (schemeB t most melts)).map fun m => m.map tabletOf) H5 := fun H5 k5 hb => ⟨k5.lst er', its'.tk k5.tk, ⟨_, rfl⟩, acc.keep (stab_libt t) k5 (by rw [take_more hm, fil_no hb])⟩
    refine ⟨_, rfl, _, rfl, rfl, (t, m), ⟨y, rfl, it, by show m.length ≤ 9; rw [fm.1]; omega, by show t ≤ 9; omega⟩, ?_⟩
    rintro _ H4 k4 rfl
    refine ⟨_, rfl, ?_⟩
    dsimp only
    refine ite_b (fun hb => ?_) fun hb => no H4 k4 (by unfold schemeB; rw [hb]; rfl)
    obtain ⟨b, rfl, hbk⟩ := (it.kp k4).key
    refine ⟨_, rfl, ?_⟩
    intro p hp
    have kp5 : Kp H4 (upd H4 p (.dT [])) := Kp.new hp
    refine ⟨_, rfl, upd_same, kM m, b, rfl, kp5.tup hbk, ?_⟩
    have kq : Kp H4 (upd (upd H4 p (.dT [])) p (.dT [(kM m, .bl true)])) := kp5.put hp
    refine ⟨_, rfl, _, rfl, _, rfl, rfl, ((t, most, melts), [(m, .bl true)], m), ⟨_, _, rfl, ⟨p, rfl, .inl upd_same⟩, (it.kp k4).kp kq, t3, h4, by show m.length ≤ 6; rw [fm.1]; omega, fun x hx => Nat.lt_of_lt_of_le (fm.2 x hx) t8⟩, ?_⟩
    rintro _ H5 k5 rfl
    have k45 := (k4.trans kq).trans k5
    have e5 : schemeB t most melts m = heldB t most melts ([((m, V.bl true) : List Nat × V)].map (·.1)) m := by
      unfold schemeB
      rw [hb, Bool.true_and]
      rfl
    refine ⟨_, rfl, ?_⟩
    dsimp only
    rw [← e5]
    refine ite_b (fun hb2 => ?_) fun hb2 => no H5 k45 hb2
    have ac5 := acc.keep (stab_libt t) k45 rfl
    refine ⟨_, rfl, .inl ⟨rfl, _, SqL.of ac5.2.choose_spec.1⟩, ?_⟩
    refine ⟨_, rfl, _, rfl, rfl, (t, m), ⟨_, rfl, it.kp k45, by show m.length ≤ 1000; rw [fm.1]; omega⟩, ?_⟩
    rintro u H6 k6 lb
    obtain ⟨xs, hx, hz, I⟩ := acc.push (stab_libt t) hD (k45.trans k6) lb (m' := (((sortedRows t n).take (i + 1)).filter (schemeB t most melts)).map fun m => m.map tabletOf) (sl (by
      rw [List.length_map]
      refine Nat.le_trans (List.length_filter_le _ _) ?_
      rw [List.length_take]
      omega)) (by rw [take_more hm, fil_yes hb2, List.map_append]; rfl)
    exact ⟨D, xs, u, rfl, rfl, hx, hz, by rw [upd_ne nrD]; exact (k45.trans k6).lst er', (its'.tk (k45.trans k6).tk).tk (Tk.lst hx), ⟨_, rfl⟩, I⟩
  · rintro σ H' ⟨er', its', ⟨o5, rfl⟩, kp, acc, hacc, pr⟩
    rw [its.length, List.take_length] at pr
    refine ⟨_, rfl, D, _, rfl, .inl ⟨SqL.of hacc, fun q hq => ?_⟩⟩
    exact k _ _ ((kp0.trans kp).trans (Kp.new hq)) ⟨q, _, rfl, upd_same, Libs.tk pr (Tk.new hq)⟩
end
end MX
end

section
set_option Elab.async false
set_option linter.all false
set_option maxRecDepth 100000
set_option maxHeartbeats 4000000
namespace MX
open PySem PySem.Spec PyProof.Rows L2
abbrev LibO := Option (Nat × List (Option (List Nat)))
/-- what is shown: none, a list, or a tuple of what may be libraries -/
inductive Val where
  | non | lst | tup (os : List LibO)
def ValV (H : Hp) (v : V) : Val → Prop
  | .non => v = .non
  | .lst => ∃ a vs, v = .ref a ∧ H a = some (.lst vs)
  | .tup os => ∃ a vs, v = .ref a ∧ H a = some (.tup vs) ∧ Paired (LibV H) vs os
theorem ValV.kp {H H' : Hp} {v : V} {x : Val} (h : ValV H v x) (k : Kp H H') : ValV H' v x := by
  cases x with
  | non => exact h
  | lst =>
    obtain ⟨a, vs, e, q⟩ := h
    exact ⟨a, vs, e, k.lst q⟩
  | tup os =>
    obtain ⟨a, vs, e, q, p⟩ := h
    exact ⟨a, vs, e, k.tup q, Paired.mono (fun _ _ z => z.tk k.tk) p⟩
def rowsL : LibO → List (List Nat)
  | none => []
  | some (_, l) => l.map fun o => o.getD []
def ascM (ls : List (List (List Nat))) : Bool := (List.range (ls.length - 1)).all fun i => decide (ls.getD i [] < ls.getD (i + 1) [])
theorem ascM_iff {r : List (List (List Nat))} : ascM r = true ↔ ∀ i, i + 1 < r.length → r.getD i [] < r.getD (i + 1) [] := by
  unfold ascM
  rw [List.all_eq_true]
  constructor
  · intro h i hi
    simpa using h i (List.mem_range.mpr (by omega))
  · intro h i hi
    have := List.mem_range.mp hi
    simpa using h i (by omega)
def thereOf (os : List LibO) : List (List Nat) := ((os.map rowsL).map fun l => l.map maskOf).foldl putN []
def showB (t n most melts : Nat) (first : List Nat) (os : List LibO) : Bool := os.all (sortedV t n) && ascM (os.map rowsL) && decide (first ∈ thereOf os) && (thereOf os).all (heldB t most melts (thereOf os))
/-- a library that is sorted -/
theorem lib_of_sorted {H : Hp} {v : V} {t n : Nat} {o : LibO} (h : LibV H v o) (s : sortedV t n o = true) : Lib H v t (rowsL o) ∧ (rowsL o).length = n ∧ ∀ r ∈ rowsL o, rowB t r = true := by
  cases o with
  | none => cases s
  | some p =>
    obtain ⟨t', l⟩ := p
    unfold sortedV at s
    simp only [Bool.and_eq_true, decide_eq_true_eq] at s
    obtain ⟨⟨⟨rfl, rfl⟩, s3⟩, s4⟩ := s
    obtain ⟨a, b, vs, rfl, e1, e2, p⟩ := h
    have rows : ∀ o ∈ l, rowO t' o = true := List.all_eq_true.mp s3
    refine ⟨⟨a, b, vs, rfl, e1, e2, ?_⟩, List.length_map _, fun r hr => ?_⟩
    · show ITs H vs (l.map fun o => o.getD [])
      clear e2 s3 s4
      induction p with
      | nil => exact .nil
      | @cons y o ys l h1 h2 ih =>
        cases o with
        | none => exact absurd (rows none (by simp)) (by intro z; cases z)
        | some r => exact .cons h1 (ih fun o ho => rows o (by simp [ho]))
    · obtain ⟨o, ho, rfl⟩ := List.mem_map.mp hr
      cases o with
      | none => exact absurd (rows none ho) (by intro z; cases z)
      | some r => exact rows _ ho
theorem sorted_facts {t n : Nat} {o : LibO} (s : sortedV t n o = true) : (rowsL o).length = n ∧ ∀ r ∈ rowsL o, rowB t r = true := by
  cases o with
  | none => cases s
  | some p =>
    obtain ⟨t', l⟩ := p
    unfold sortedV at s
    simp only [Bool.and_eq_true, decide_eq_true_eq] at s
    obtain ⟨⟨⟨rfl, rfl⟩, s3⟩, s4⟩ := s
    have rows : ∀ o ∈ l, rowO t' o = true := List.all_eq_true.mp s3
    refine ⟨List.length_map _, fun r hr => ?_⟩
    obtain ⟨o, ho, rfl⟩ := List.mem_map.mp hr
    cases o with
    | none => exact absurd (rows none ho) (by intro z; cases z)
    | some r => exact rows _ ho
section
variable {P : Program} {w : World} {K : PySem.W.Frag} {mg : Str → Option Value} {base : Heap} {f c C : Addr} {fd : FuncData}
abbrev st_shows_flood_family : Stmt := topS 37
abbrev N_shows_flood_family : List Str := ["library", "most", "melts", "value", "there", "one", "masks", "other"]
theorem sc_shows_flood_family : FnScope N_shows_flood_family ["library", "most", "melts", "value"] (defScope st_shows_flood_family) := ⟨rfl, rfl, rfl, by decide +kernel, rfl, by decide +kernel, by decide +kernel⟩
def ShowR (t n most melts : Nat) (first : List Nat) (v : V) : Val → Prop
  | .non => ∃ b : Bool, v = .bl b ∧ (b = true ↔ Lost t most melts first)
  | .lst => v = .bl false
  | .tup os => v = .bl (showB t n most melts first os)
def sp_shows (C T1 T2 T3 T4 : Addr) : Sp := spR 4 (fun vs H (x : (Nat × List (List Nat) × Nat × Nat) × Val) => ∃ v u, vs = [v, nV x.1.2.2.1, nV x.1.2.2.2, u] ∧ Lib H v x.1.1 x.1.2.1 ∧ Ask x.1.1 x.1.2.1 x.1.2.2.1 x.1.2.2.2 ∧ ValV H u x.2 ∧ (∀ os, x.2 = .tup os → os.length ≤ 1000) ∧ GxR.TabG H T1 ∧ GxR.TabG H T2 ∧ GxR.TabG H T3 ∧ GxR.TabG H T4) fun x v H => ShowR x.1.1 x.1.2.1.length x.1.2.2.1 x.1.2.2.2 (firstOf x.1.2.1) v x.2
theorem cal_shows {T1 T2 T3 T4 : Addr} (FC : FlC K C) (F : FunC K mg "shows_flood_family" st_shows_flood_family f fd c) (TB : GxR.TabB base mg c T4) (B : Bi mg) (C_need_flood : Cal P w K mg base 6 "need_flood" ["library", "most", "melts"] (sp_need_flood T1 T2)) (C_flood_of : Cal P w K mg base 10 "flood_of" ["library", "most", "melts"] (sp_flood_of C)) (C_masks_of : Cal P w K mg base 2 "masks_of" ["library"] sp_masks_of) (C_in_order : Cal P w K mg base 4 "in_order" ["masks"] sp_in_order) (C_is_sorted_library : Cal P w K mg base 5 "is_sorted_library" ["library", "value"] (sp_is_sorted_library T1 T3)) (C_is_held : Cal P w K mg base 6 "is_held" ["texts", "there", "masks", "most", "melts"] sp_is_held) : Cal P w K mg base 11 "shows_flood_family" ["library", "most", "melts", "value"] (sp_shows C T1 T2 T3 T4) := by
  refine F.cal sc_shows_flood_family spR_len (fun _ _ _ _ _ _ us hl => match us, hl with | [_, _, _, _], _ => rfl) (fun A outer s H vs Q hr h => ?_) spR_E
  refine ⟨_, (pss_cons (ps_expr (pe_cal C_need_flood hr (by decide) (by rfl) (pa_cons (pv 0) (pa_cons (pv 1) (pa_cons (pv 2) pa_nil)))))
  (pss_cons (ps_if (pt_cmpR op_isN (pv 3) pe_non (nomark _)) (pss_one (ps_ret (pe_cmp (pc_din (hu_of hr) (pe_cal C_in_order hr (by decide) (by rfl) (pa_cons (pe_cal C_masks_of hr (by decide) (by rfl) (pa_cons (pv 0) pa_nil)) pa_nil)) (pe_fldK K (he := (pe_cal C_flood_of hr (by decide) (by rfl) (pa_cons (pv 0) (pa_cons (pv 1) (pa_cons (pv 2) pa_nil))))))) rfl))) pss_nil)
  (pss_cons (ps_if (PW.pt (pw_or (pt_not (pt_val (pe_callB (call_isiK K) (by rfl) B.isi boot_isi (pa_cons (pv 3) (pa_cons (pe_bltn (v := .ty "tuple") (by rfl) B.tuple boot_tuple rfl) pa_nil))))) (pw_or1 (pt_not (pt_val (pe_allG (k := 6) (own := [("one", 5)]) sc_shows_flood_family.nd (hr.mono (by decide)) (by rfl) B.all TB rfl (pi_tupK K (hl := (pv 3))) (blkOk_by (own := [("one", 5)]) (N := N_shows_flood_family) (sc := defScope st_shows_flood_family) (by decide +kernel)) ⟨rfl, by decide +kernel, rfl⟩ (fun _ _ _ _ _ _ _ _ => (pg_name (i := 5) sc_shows_flood_family.nd rfl (by first | exact Or.inl rfl | exact Or.inr rfl))) (fun _ _ _ _ _ _ _ _ hr => (pe_cal C_is_sorted_library hr (by decide) (by rfl) (pa_cons (pv 0) (pa_cons (pv 5) pa_nil)))) (fun _ => rfl))))))) (pss_one (ps_ret pe_bl)) pss_nil)
  (pss_cons (ps_if (pt_not (pt_val (pe_allG (k := 6) (own := [("one", 5), ("other", 7)]) sc_shows_flood_family.nd (hr.mono (by decide)) (by rfl) B.all TB rfl (pi_zipAK K (hg := by rfl) (hm := B.zip) (ha := (pa_cons (pv 3) (pa_cons (pe_slice (sl_tupAK K) (pv 3) (po_some pe_int) po_none) pa_nil)))) (blkOk_by (own := [("one", 5), ("other", 7)]) (N := N_shows_flood_family) (sc := defScope st_shows_flood_family) (by decide +kernel)) ⟨rfl, by decide +kernel, rfl⟩ (fun _ _ _ _ _ _ _ _ => (pg_tupK K (n := 2) (hc := rfl) (h := (pgs_cons (pg_name (i := 5) sc_shows_flood_family.nd rfl (by first | exact Or.inl rfl | exact Or.inr rfl)) (pgs_cons (pg_name (i := 7) sc_shows_flood_family.nd rfl (by first | exact Or.inl rfl | exact Or.inr rfl)) pgs_nil))))) (fun _ _ _ _ _ _ _ _ hr => (pe_cmpR (op_ltDK K (hu := un_of hr (by decide))) (pv 5) (pv 7) (nomark _))) (fun _ => rfl)))) (pss_one (ps_ret pe_bl)) pss_nil)
  (pss_cons (ps_set (i := 4) sc_shows_flood_family.nd rfl (Or.inr rfl) (pe_dcT (own := [("one", 5)]) hr.units0 rfl sc_shows_flood_family.nd (pi_tupK K (hl := (pv 3))) (blkOk_by (own := [("one", 5)]) (N := N_shows_flood_family) (sc := defScope st_shows_flood_family) (by decide +kernel)) (fun _ _ _ _ _ => (pg_name (i := 5) sc_shows_flood_family.nd rfl (by first | exact Or.inl rfl | exact Or.inr rfl))) (fun _ _ _ _ _ => pts_nil) (fun _ _ _ _ _ => (pe_cal C_masks_of hr (by decide) (by rfl) (pa_cons (pv 5) pa_nil))) (fun _ _ _ _ _ => pe_bl)))
  (pss_cons (ps_if (pt_cmp (pc_dnotin (hu_of hr) (pe_cal C_in_order hr (by decide) (by rfl) (pa_cons (pe_cal C_masks_of hr (by decide) (by rfl) (pa_cons (pv 0) pa_nil)) pa_nil)) (pv 4))) (pss_one (ps_ret pe_bl)) pss_nil)
  (pss_one (ps_ret (pe_lock (pe_allG (k := 6) (own := [("masks", 6)]) sc_shows_flood_family.nd (hr.mono (by decide)) (by rfl) B.all TB rfl (pi_keys (pv 4)) (blkOk_by (own := [("masks", 6)]) (N := N_shows_flood_family) (sc := defScope st_shows_flood_family) (by decide +kernel)) ⟨rfl, by decide +kernel, rfl⟩ (fun _ _ _ _ _ _ _ _ => (pg_name (i := 6) sc_shows_flood_family.nd rfl (by first | exact Or.inl rfl | exact Or.inr rfl))) (fun _ _ _ _ _ _ _ _ hr => (pe_cal C_is_held hr (by decide) (by rfl) (pa_cons (pe_ix (ix_tupK K) (pv 0) pe_int (fun _ _ => rfl)) (pa_cons (pv 4) (pa_cons (pv 6) (pa_cons (pv 1) (pa_cons (pv 2) pa_nil))))))) (fun _ => rfl))))))))))), ?_⟩
  obtain ⟨_, ⟨⟨t, l, most, melts⟩, val⟩, ⟨v, u, rfl, lib, ask, vv, vsz, tab1, tab2, tab3, tab4⟩, k⟩ := h
  dsimp only at lib ask vv vsz k
  have g := ask.g
  refine ⟨_, rfl, _, rfl, _, rfl, rfl, (t, l, most, melts), ⟨v, rfl, lib, g, ask.h1, ask.h2, ask.h3, ask.h4, ask.h5, tab1, tab2⟩, ?_⟩
  rintro _ H1 k1 rfl
  have lib1 := lib.kp k1
  have vv1 := vv.kp k1
  have ff := order_fit (lib_fit g)
  have t8 : 2 ^ t ≤ 8 := Nat.le_trans (Nat.pow_le_pow_right (by decide) g.t3) (by decide)
  cases val with
  | non =>
    obtain rfl : u = .non := vv1
    refine ⟨_, rfl, rfl, _, rfl, ifT rfl ?_⟩
    refine ⟨_, rfl, rfl, (t, l), ⟨v, rfl, lib1, lib_ok g⟩, ?_⟩
    rintro u1 H2 k2 iu1
    refine ⟨rfl, l.map maskOf, ⟨u1, rfl, .inl iu1⟩, ?_⟩
    rintro u2 H3 k3 iu
    refine ⟨_, rfl, _, rfl, _, rfl, rfl, (t, l, most, melts), ⟨v, rfl, lib1.kp (k2.trans k3), g, ask.h4, ask.h5, ask.cap⟩, ?_⟩
    rintro fv H4 k4 ⟨a, dx, W, N, kvs, fkv, rfl, ea, eW, ways, fnd, fit, eN, rec⟩
    dsimp only at ea eW ways fnd fit eN rec
    refine ⟨a, C, dx, _, .ref N, rfl, ea, FC.cl, FC.within, rfl, N, _, rfl, DR.get (.inl eN) (iu.kp k4), ?_⟩
    refine k _ _ (((k1.trans k2).trans k3).trans k4) ⟨_, rfl, ?_⟩
    rw [val_mem, decide_eq_true_eq]
    exact ⟨fun h => rec.sound _ h, fun h => lost_in rec fnd.closed h fnd.fst⟩
  | lst =>
    obtain ⟨a, vs, rfl, ea⟩ := vv1
    refine ⟨_, rfl, rfl, _, rfl, ifF rfl ?_⟩
    refine ⟨_, rfl, _, _, _, _, _, rfl, .ty _, .base (.lst ea), kit_lt, _, rfl, ifT rfl (ifT rfl (k _ _ k1 rfl))⟩
  | tup os =>
    obtain ⟨a, vs, rfl, ea, pr⟩ := vv1
    have hl := pr.length
    have osz := vsz os rfl
    refine ⟨_, rfl, rfl, _, rfl, ifF rfl ?_⟩
    refine ⟨_, rfl, _, _, _, _, _, rfl, .ty _, .base (.tup ea), kit_tt, _, rfl, ifF rfl ?_⟩
    refine ⟨_, rfl, a, rfl, ⟨_, SqT.of ea⟩, k1.tab tab4, fun H2 k2 => ?_⟩
    refine turns_tup (xs := vs) (fun i H' => Kp H1 H' ∧ ∀ o ∈ os.take i, sortedV t l.length o = true) ⟨k2, by simp⟩ (fun i H' I => SqT.of (I.1.tup ea)) ?_ ?_
    · rintro i y H' hy ⟨kp, ok⟩
      obtain ⟨o, ho, it⟩ := Paired.at' pr hy
      refine ⟨rfl, _, rfl, _, rfl, rfl, ((t, l), o), ⟨_, _, rfl, lib1.kp kp, it.tk kp.tk, (k1.trans kp).tab tab1, (k1.trans kp).tab tab3⟩, ?_⟩
      rintro _ H3 k3 rfl
      refine ⟨_, rfl, ?_⟩
      refine ite_b (fun hb => ⟨kp.trans k3, ?_⟩) (fun hb => ⟨_, rfl, ifT rfl (k _ _ ((k1.trans kp).trans k3) ?_)⟩)
      · intro m hm
        rw [take_more ho, List.mem_append, List.mem_singleton] at hm
        rcases hm with hm | rfl
        · exact ok m hm
        · exact hb
      · show V.bl false = V.bl (showB t l.length most melts (firstOf l) os)
        have : os.all (sortedV t l.length) = false := List.all_eq_false.mpr ⟨o, List.mem_of_getElem? ho, by rw [show sortedV t l.length o = false from hb]; decide⟩
        unfold showB
        rw [this]
        rfl
    · rintro H2 ⟨k2, ok⟩
      rw [hl, List.take_length] at ok
      have all : os.all (sortedV t l.length) = true := List.all_eq_true.mpr ok
      refine ⟨_, rfl, ifF rfl ?_⟩
      have libs : ∀ {H' : Hp}, Tk H1 H' → Libs H' t vs (os.map rowsL) := by
        intro H' tk
        have : ∀ {vs : List V} {os : List LibO}, Paired (LibV H1) vs os → (∀ o ∈ os, sortedV t l.length o = true) → Libs H' t vs (os.map rowsL) := by
          intro vs os h
          induction h with
          | nil => intro _; exact .nil
          | cons h1 h2 ih => exact fun ok => .cons (lib_of_sorted (h1.tk tk) (ok _ (by simp))).1 (ih fun o ho => ok o (by simp [ho]))
        exact this pr ok
      have rowsOk : ∀ r ∈ os.map rowsL, r.length = l.length ∧ ∀ x ∈ r, rowB t x = true := by
        intro r hr
        obtain ⟨o, ho, rfl⟩ := List.mem_map.mp hr
        exact sorted_facts (ok o ho)
      have L0 := libs (Tk.refl H1)
      generalize hms : os.map rowsL = ls at *
      have lsl : ls.length = os.length := by rw [← hms, List.length_map]
      refine ⟨_, rfl, tsl_fromV (n := 1) rfl rfl (k2.tup ea) fun u H3 k3 eu => ?_⟩
      have k13 := k2.trans k3
      refine ⟨a, u, vs, vs.drop 1, rfl, .inr ⟨SqT.of (k13.tup ea), SqT.of eu, (k1.trans k13).tab tab4, fun H4 k4 => ?_⟩⟩
      refine turns_zip (by rw [List.length_drop]; omega) (fun i H' => Kp H3 H' ∧ ∀ j, j < i → ls.getD j [] < ls.getD (j + 1) []) ⟨k4, fun j hj => absurd hj (Nat.not_lt_zero _)⟩ (fun i H' I => ⟨SqT.of (I.1.tup (k13.tup ea)), SqT.of (I.1.tup eu)⟩) ?_ ?_
      · rintro i x y T2 H5 hx hy ⟨kp5, lt5⟩ hT
        obtain ⟨n, hn, itn⟩ := Paired.at' L0 hx
        have hy : vs[i + 1]? = some y := by rw [List.getElem?_drop, Nat.add_comm] at hy; exact hy
        obtain ⟨m, hm, itm⟩ := Paired.at' L0 hy
        have g1 : ls.getD i [] = n := by rw [List.getD_eq_getElem?_getD, hn]; rfl
        have g2 : ls.getD (i + 1) [] = m := by rw [List.getD_eq_getElem?_getD, hm]; rfl
        have k6 := kp5.trans (Kp.new (o := .tup [x, y]) hT)
        have k16 := (k13.trans k6)
        refine ⟨T2, _, rfl, SqT.of upd_same, rfl, _, _, rfl, _, _, rfl, rfl, rfl, _, rfl, _, rfl, libD t n, libD t m, (itn.kp k16).dp, (itm.kp k16).dp, alike_lib t n m, (by intro z; cases z), (by have := dep_lib t n; omega), _, rfl, ?_⟩
        rw [lt_lib]
        refine ite_b (fun hb => ⟨k6, fun j hj => ?_⟩) (fun hb => ⟨_, rfl, ifT rfl (k _ _ (k1.trans k16) ?_)⟩)
        · by_cases z : j = i
          · subst z
            rw [g1, g2]
            simpa using hb
          · exact lt5 j (by omega)
        · show V.bl false = V.bl (showB t l.length most melts (firstOf l) os)
          unfold showB
          rw [all, hms, Bool.true_and]
          have : ascM ls = false := Bool.eq_false_iff.mpr fun z => by
            have q := ascM_iff.mp z i (List.getElem?_eq_some_iff.mp hm).1
            rw [g1, g2] at q
            rw [decide_eq_true q] at hb
            cases hb
          rw [this]
          rfl
      · rintro H5 ⟨kp5, lt5⟩
        have asc : ascM ls = true := ascM_iff.mpr fun i hi => lt5 i (by rw [List.length_drop, hl]; omega)
        refine ⟨_, rfl, ifF rfl ?_⟩
        have k15 := k13.trans kp5
        refine ⟨_, rfl, a, rfl, ⟨_, SqT.of (k15.tup ea)⟩, fun D hD => ?_⟩
        refine turns_tup (xs := vs) (fun i H' => Kp H5 H' ∧ ∃ fkv, H' D = some (.dT (kS fkv)) ∧ fkv = ((ls.map fun l => l.map maskOf).take i).foldl putN []) ⟨Kp.new hD, [], upd_same, rfl⟩ (fun i H' I => SqT.of (I.1.tup (k15.tup ea))) ?_ ?_
        · rintro i y H' hy ⟨kp, fkv, hf, ef⟩
          obtain ⟨r, hr, lb⟩ := Paired.at' L0 hy
          obtain ⟨r1, r2⟩ := rowsOk r (List.mem_of_getElem? hr)
          have gm : (ls.map fun l => l.map maskOf)[i]? = some (r.map maskOf) := by rw [List.getElem?_map, hr]; rfl
          refine ⟨rfl, yes2 ⟨_, rfl, rfl, (t, r), ⟨y, rfl, lb.kp (k15.trans kp), ⟨by show r.length ≤ 1000; rw [r1]; have := g.l6; omega, fun x hx => (row_mask g.t3 (r2 x hx)).2.2⟩⟩, ?_⟩⟩
          rintro u6 H6 k6 iu6
          obtain ⟨b, rfl, hb⟩ := iu6.key
          refine ⟨_, _, b, rfl, hb, k6.dT hf, ?_, (kp.trans k6).put hD, putN fkv (r.map maskOf), ?_, ?_⟩
          · rw [kS_len, ef]
            refine sl (Nat.le_trans (putNs_len _ _) ?_)
            rw [List.length_take, List.length_map, lsl]
            simp only [List.length_nil]
            omega
          · rw [kS_put]
            exact upd_same
          · rw [take_more gm, List.foldl_append, ef]
            rfl
        · rintro H6 ⟨kp6, fkv, hf, ef⟩
          rw [L0.length, ← List.length_map (f := fun l : List (List Nat) => l.map maskOf) (as := ls), List.take_length] at ef
          have eth : thereOf os = fkv := by
            unfold thereOf
            rw [hms, ef]
          have kH6 : Kp H1 H6 := k15.trans kp6
          refine ⟨_, rfl, rfl, (t, l), ⟨v, rfl, lib1.kp kH6, lib_ok g⟩, ?_⟩
          rintro u7 H7 k7 iu7
          refine ⟨rfl, l.map maskOf, ⟨u7, rfl, .inl iu7⟩, ?_⟩
          rintro u8 H8 k8 iu8
          have iu8 : IT H8 u8 (firstOf l) := iu8
          have kH8 := (kH6.trans k7).trans k8
          have eD8 := k8.dT (k7.dT hf)
          have eDs : H8 D = some (.dT (kP (fkv.map fun m => (m, V.bl true)))) := by rw [← kS_kP]; exact eD8
          refine ⟨_, rfl, D, _, rfl, DR.get (.inl eDs) iu8, ⟨_, rfl, ?_⟩⟩
          have keysS : (fkv.map fun m => (m, V.bl true)).map (fun x : List Nat × V => x.1) = fkv := by
            rw [List.map_map, show ((fun x : List Nat × V => x.1) ∘ fun m : List Nat => (m, V.bl true)) = id from rfl, List.map_id]
          rw [val_mem, keysS]
          have shown : showB t l.length most melts (firstOf l) os = (decide (firstOf l ∈ fkv) && fkv.all (heldB t most melts fkv)) := by
            unfold showB
            rw [all, hms, asc, eth]
            rfl
          refine ite_b (fun hb => ?_) fun hb => ?_
          · refine k _ _ (k1.trans kH8) ?_
            show V.bl false = V.bl (showB t l.length most melts (firstOf l) os)
            rw [shown]
            have : decide (firstOf l ∈ fkv) = false := by simpa using hb
            rw [this]
            rfl
          · have hin : decide (firstOf l ∈ fkv) = true := by simpa using hb
            rw [hin, Bool.true_and] at shown
            have fkok : ∀ m ∈ fkv, m.length ≤ 6 ∧ ∀ x ∈ m, x < 8 := by
              intro m hm
              rw [ef] at hm
              rcases (putNs_mem _).mp hm with hm | hm
              · cases hm
              · obtain ⟨r, hr, rfl⟩ := List.mem_map.mp hm
                obtain ⟨r1, r2⟩ := rowsOk r hr
                refine ⟨by rw [List.length_map, r1]; exact g.l6, fun x hx => ?_⟩
                obtain ⟨y, hy, rfl⟩ := List.mem_map.mp hx
                exact Nat.lt_of_lt_of_le (row_mask g.t3 (r2 y hy)).1 t8
            obtain ⟨la, lb, lxs, rfl, le1, le2, lits⟩ := lib1.kp kH8
            refine ⟨D, _, eD8, True.intro, fun od => ?_⟩
            have t9 : Tk H8 (upd H8 D (.frz od (.dT (kS fkv)))) := Tk.dT eD8
            have tab9 : GxR.TabG (upd H8 D (.frz od (.dT (kS fkv)))) T4 := by
              have hD1 : H1 D = none := k15.free hD
              exact (kH8.put hD1).tab (k1.tab tab4)
            refine ⟨_, rfl, D, od, rfl, .inr ⟨_, upd_same, tab9, fun H9 k9 => ?_⟩⟩
            have out : ∀ {b : Bool} {H' : Hp}, Kp (upd H8 D (.frz od (.dT (kS fkv)))) H' → b = fkv.all (heldB t most melts fkv) → H' D = some (.frz od (.dT (kS fkv))) ∧ Q (.bl b) (upd H' D (.dT (kS fkv))) := by
              intro b H' kz eb
              refine ⟨kz.frz upd_same, ?_⟩
              refine k _ _ ((k1.trans kH8).trans (Kp.unlock eD8 (fun ps z => by cases z) kz)) ?_
              show V.bl b = V.bl (showB t l.length most melts (firstOf l) os)
              rw [shown, eb]
            refine turns_keys (o := od) (kvs := kS fkv) (fun i H' => Kp (upd H8 D (.frz od (.dT (kS fkv)))) H' ∧ ∀ m ∈ fkv.take i, heldB t most melts fkv m = true) ⟨k9, by simp⟩ (fun i H' I => I.1.frz upd_same) ?_ ?_
            · rintro i kk vv q H' hkv hq ⟨kz, ok2⟩
              obtain ⟨m, hm, ekv⟩ := map_at hkv
              cases ekv
              have it : IT H' (.ref q) m := IT.of_key hq
              obtain ⟨m6, m8⟩ := fkok m (List.mem_of_getElem? hm)
              have rd : DR H' (.ref D) (fkv.map fun m => (m, V.bl true)) := ⟨D, rfl, .inr ⟨od, by rw [← kS_kP]; exact kz.frz upd_same⟩⟩
              refine ⟨rfl, _, rfl, la, _, 0, _, rfl, rfl, SqT.of (kz.tup (t9 _ _ le1)), atI_nat (j := 0) rfl, _, rfl, _, rfl, _, rfl, _, rfl, rfl, ((t, most, melts), fkv.map fun m => (m, V.bl true), m), ⟨_, _, rfl, rd, it, g.t3, ask.h4, m6, m8⟩, ?_⟩
              rintro _ H10 k10 rfl
              dsimp only
              rw [keysS]
              refine ⟨_, rfl, ?_⟩
              refine ite_b (fun hb3 => ⟨kz.trans k10, ?_⟩) (fun hb3 => out (kz.trans k10) ?_)
              · intro x hx
                rw [take_more hm, List.mem_append, List.mem_singleton] at hx
                rcases hx with hx | rfl
                · exact ok2 x hx
                · exact hb3
              · exact (List.all_eq_false.mpr ⟨m, List.mem_of_getElem? hm, by rw [hb3]; decide⟩).symm
            · rintro H' ⟨kz, ok2⟩
              rw [kS_len, List.take_length] at ok2
              exact out kz (List.all_eq_true.mpr ok2).symm
end
end MX
end

section
set_option Elab.async false
set_option linter.all false
set_option maxRecDepth 100000
set_option maxHeartbeats 4000000
namespace MX
open PySem PySem.Spec PyProof.Rows L2
/-! ### sorted(set(..)): rising, each once -/
theorem nlt_antisymm {a b : List Nat} (h1 : ¬ b < a) (h2 : ¬ a < b) : a = b := by
  have e1 : a ≤ b := List.not_lt.mp h1
  have e2 : b ≤ a := List.not_lt.mp h2
  exact List.le_antisymm e1 e2
theorem nlt_trans {a b c : List Nat} (h1 : ¬ b < a) (h2 : ¬ c < b) : ¬ c < a := by
  have e1 : a ≤ b := List.not_lt.mp h1
  have e2 : b ≤ c := List.not_lt.mp h2
  exact List.not_lt.mpr (List.le_trans e1 e2)
theorem nlt_total (a b : List Nat) : ¬ b < a ∨ ¬ a < b := by
  rcases List.le_total a b with h | h
  · exact .inl (List.not_lt.mpr h)
  · exact .inr (List.not_lt.mpr h)
theorem sortL_pw (l : List (List Nat)) : (sortL l).Pairwise fun a b => ¬ b < a := by
  have := List.pairwise_mergeSort (le := fun a b : List Nat => !decide (b < a)) (fun a b c h1 h2 => by
    simp only [Bool.not_eq_true', decide_eq_false_iff_not] at h1 h2 ⊢
    exact nlt_trans h1 h2) (fun a b => by
    simp only [Bool.or_eq_true, Bool.not_eq_true', decide_eq_false_iff_not]
    exact nlt_total a b) l
  exact this.imp fun h => by simpa using h
theorem sortL_perm (l : List (List Nat)) : (sortL l).Perm l := by unfold sortL; exact List.mergeSort_perm _ _
/-- the sorted one is the only one -/
theorem sortL_uniq {l m : List (List Nat)} (h : l.Perm m) : sortL l = sortL m :=
  List.Perm.eq_of_pairwise (le := fun a b => ¬ b < a) (fun a b _ _ h1 h2 => nlt_antisymm h1 h2) (sortL_pw l) (sortL_pw m) ((sortL_perm l).trans (h.trans (sortL_perm m).symm))
def dd {α : Type} [DecidableEq α] (l : List α) : List α := l.foldl putN []
theorem dd_mem {α : Type} [DecidableEq α] {l : List α} {x : α} : x ∈ dd l ↔ x ∈ l := by
  unfold dd
  rw [putNs_mem]
  simp
theorem dd_nodup {α : Type} [DecidableEq α] (l : List α) : (dd l).Nodup := putNs_nodup _ List.nodup_nil
def sortU (l : List (List Nat)) : List (List Nat) := sortL (dd l)
theorem sortU_mem {l : List (List Nat)} {x : List Nat} : x ∈ sortU l ↔ x ∈ l := by unfold sortU; rw [sort_mem, dd_mem]
theorem perm_dd {α : Type} [DecidableEq α] {l m : List α} (nd : l.Nodup) (h : ∀ x, x ∈ l ↔ x ∈ m) : l.Perm (dd m) := (List.perm_ext_iff_of_nodup nd (dd_nodup m)).mpr fun x => by rw [h, dd_mem]
theorem sortU_len (l : List (List Nat)) : (sortU l).length ≤ l.length := by
  unfold sortU sortL dd
  rw [List.length_mergeSort]
  have := putNs_len l []
  simpa using this
/-! #### the same of libraries -/
theorem mlt_antisymm {a b : List (List Nat)} (h1 : ¬ b < a) (h2 : ¬ a < b) : a = b := by
  have e1 : a ≤ b := List.not_lt.mp h1
  have e2 : b ≤ a := List.not_lt.mp h2
  exact List.le_antisymm e1 e2
theorem mlt_trans {a b c : List (List Nat)} (h1 : ¬ b < a) (h2 : ¬ c < b) : ¬ c < a := by
  have e1 : a ≤ b := List.not_lt.mp h1
  have e2 : b ≤ c := List.not_lt.mp h2
  exact List.not_lt.mpr (List.le_trans e1 e2)
theorem mlt_total (a b : List (List Nat)) : ¬ b < a ∨ ¬ a < b := by
  rcases List.le_total a b with h | h
  · exact .inl (List.not_lt.mpr h)
  · exact .inr (List.not_lt.mpr h)
theorem sortM_pw (l : List (List (List Nat))) : (sortM l).Pairwise fun a b => ¬ b < a := by
  have := List.pairwise_mergeSort (le := fun a b : List (List Nat) => !decide (b < a)) (fun a b c h1 h2 => by
    simp only [Bool.not_eq_true', decide_eq_false_iff_not] at h1 h2 ⊢
    exact mlt_trans h1 h2) (fun a b => by
    simp only [Bool.or_eq_true, Bool.not_eq_true', decide_eq_false_iff_not]
    exact mlt_total a b) l
  exact this.imp fun h => by simpa using h
theorem sortM_perm (l : List (List (List Nat))) : (sortM l).Perm l := by unfold sortM; exact List.mergeSort_perm _ _
theorem sortM_uniq {l m : List (List (List Nat))} (h : l.Perm m) : sortM l = sortM m :=
  List.Perm.eq_of_pairwise (le := fun a b => ¬ b < a) (fun a b _ _ h1 h2 => mlt_antisymm h1 h2) (sortM_pw l) (sortM_pw m) ((sortM_perm l).trans (h.trans (sortM_perm m).symm))
/-! ### keys of sets -/
def nkI (n : Nat) : NestedKey := .num (n : Int)
def nkT (m : List Nat) : NestedKey := .tup (m.map nkI)
def nkL (t : Nat) (l : List (List Nat)) : NestedKey := .tup [nkI t, .tup (l.map nkT)]
theorem nkDs_map {α : Type} (g : α → NestedKey) : ∀ l : List α, nkDs (l.map g) = l.map fun x => nkD (g x)
  | [] => rfl
  | x :: l => by
    rw [List.map_cons, List.map_cons]
    show nkD (g x) :: nkDs (l.map g) = _
    rw [nkDs_map g l]
theorem nkD_T (m : List Nat) : nkD (nkT m) = tD m := by
  show PyData.tuple (nkDs (m.map nkI)) = _
  rw [nkDs_map]
  rfl
theorem nkD_L (t : Nat) (l : List (List Nat)) : nkD (nkL t l) = libD t l := by
  show PyData.tuple [.int (t : Int), .tuple (nkDs (l.map nkT))] = _
  rw [nkDs_map]
  unfold libD tsD
  congr 3
  congr 1
  apply List.map_congr_left
  intro m _
  exact nkD_T m
theorem nums_map {α : Type} (g : α → NestedKey) (h : ∀ x, Nums (g x)) : ∀ l : List α, NumsAll (l.map g)
  | [] => True.intro
  | x :: l => ⟨h x, nums_map g h l⟩
theorem nums_T (m : List Nat) : Nums (nkT m) := nums_map nkI (fun _ => True.intro) m
theorem nums_L (t : Nat) (l : List (List Nat)) : Nums (nkL t l) := ⟨True.intro, nums_map nkT nums_T l, True.intro⟩
theorem nkdep_map {α : Type} (g : α → NestedKey) (n : Nat) (h : ∀ x, (g x).depth ≤ n) : ∀ l : List α, NestedKey.depthAll (l.map g) ≤ n
  | [] => Nat.zero_le _
  | x :: l => Nat.max_le.mpr ⟨h x, nkdep_map g n h l⟩
theorem nkdep_T (m : List Nat) : (nkT m).depth ≤ 1 := by
  show NestedKey.depthAll (m.map nkI) + 1 ≤ 1
  have := nkdep_map nkI 0 (fun _ => Nat.le_refl _) m
  omega
theorem nkdep_L (t : Nat) (l : List (List Nat)) : (nkL t l).depth ≤ 3 := by
  show max 0 (max (NestedKey.depthAll (l.map nkT) + 1) 0) + 1 ≤ 3
  have := nkdep_map nkT 1 nkdep_T l
  omega
theorem nkI_inj {a b : Nat} (h : nkI a = nkI b) : a = b := by
  injection h with h
  omega
theorem map_inj {α β : Type} {f : α → β} (h : ∀ {a b}, f a = f b → a = b) : ∀ {l m : List α}, l.map f = m.map f → l = m
  | [], [], _ => rfl
  | [], _ :: _, e => by cases e
  | _ :: _, [], e => by cases e
  | x :: l, y :: m, e => by
    rw [List.map_cons, List.map_cons] at e
    injection e with e1 e2
    rw [h e1, map_inj h e2]
theorem nkT_inj {a b : List Nat} (h : nkT a = nkT b) : a = b := by
  injection h with h
  exact map_inj nkI_inj h
theorem nkL_inj {t : Nat} {a b : List (List Nat)} (h : nkL t a = nkL t b) : a = b := by
  injection h with h
  injection h with _ h
  injection h with h _
  injection h with h
  exact map_inj nkT_inj h
/-- sorted(set(xs)), told of what the items read as -/
theorem sort_set {K : PySem.W.Frag} {w : World} {β : Type} [DecidableEq β] {F : Hp → V → β → Prop} {enc : β → NestedKey} (inj : ∀ {a b}, enc a = enc b → a = b) (S : Stab F) (ref : ∀ H v b, F H v b → ∃ a, v = .ref a) (dp : ∀ H v b, F H v b → Dp K H v (nkD (enc b)))
    (nums : ∀ b, Nums (enc b)) (dep : ∀ b, (enc b).depth ≤ 8) (tup : ∀ b, ∃ k, enc b = .tup k) (srt : ∀ l : List β, SrtOk (l.map fun b => nkD (enc b)))
    {H : Hp} {l : Addr} {vs : List V} {L : List β} {Q : VK} (e : SqL K H l vs ∨ SqT K H l vs) (p : Paired (F H) vs L) (few : L.length < 64)
    (q : ∀ (H' : Hp) (p : Addr) (ws : List V) (M : List β), Kp H H' → H p = none → H' p = some (.lst ws) → M.Perm (dd L) → Paired (F H') ws (M.mergeSort fun a b => !PySem.W.dataLt (nkD (enc b)) (nkD (enc a))) → Q (.ref p) H') :
    rSetN K w [.ref l] H fun y H1 => rSortC K (cSetN w) [y] H1 Q := by
  have keys : ∃ ks : List (Addr × NestedKey), vs = (ks.map fun p => V.ref p.1) ∧ ks.map (·.2) = L.map enc ∧ (∀ x ∈ ks, ∃ b, x.2 = enc b ∧ b ∈ L ∧ F H (.ref x.1) b) := by
    clear e few q
    induction p with
    | nil => exact ⟨[], rfl, rfl, fun p hp => by cases hp⟩
    | @cons v b vs L h t ih =>
      obtain ⟨ks, e1, e2, e3⟩ := ih
      obtain ⟨a, rfl⟩ := ref _ _ _ h
      refine ⟨(a, enc b) :: ks, by rw [e1]; rfl, by rw [List.map_cons, e2]; rfl, fun p hp => ?_⟩
      rcases List.mem_cons.mp hp with rfl | hp
      · exact ⟨b, rfl, by simp, h⟩
      · obtain ⟨b', h1, h2, h3⟩ := e3 p hp
        exact ⟨b', h1, by simp [h2], h3⟩
  obtain ⟨ks, rfl, e2, e3⟩ := keys
  refine ⟨l, ks, rfl, e, fun p hp => ?_, ?_, ?_⟩
  · obtain ⟨b, h1, h2, h3⟩ := e3 p hp
    rw [h1]
    exact ⟨dp _ _ _ h3, nums b, dep b, tup b⟩
  · have := congrArg List.length e2
    rw [List.length_map, List.length_map] at this
    omega
  · intro a Ls ha nd sub all
    have k1 : Kp H (upd H a (NSetO w a Ls)) := Kp.new ha
    refine ⟨_, rfl, a, Ls, rfl, upd_same, fun L' pm => ?_⟩
    have dec : ∃ M : List β, (L'.map (·.2)) = M.map enc ∧ Paired (F (upd H a (NSetO w a Ls))) (L'.map fun p => V.ref p.1) M ∧ ∀ b ∈ M, b ∈ L := by
      have sub' : ∀ p ∈ L', p ∈ ks := fun p hp => sub p (pm.mem_iff.mp hp)
      clear pm
      induction L' with
      | nil => exact ⟨[], rfl, .nil, fun b hb => by cases hb⟩
      | cons x L' ih =>
        obtain ⟨M, h1, h2, h3⟩ := ih fun p hp => sub' p (by simp [hp])
        obtain ⟨b, h4, h5, h6⟩ := e3 x (sub' x (by simp))
        refine ⟨b :: M, by rw [List.map_cons, h1, h4]; rfl, .cons (S _ _ _ _ k1.tk h6) h2, fun y hy => ?_⟩
        rcases List.mem_cons.mp hy with rfl | hy
        · exact h5
        · exact h3 y hy
    obtain ⟨M, h1, h2, h3⟩ := dec
    have ndM : M.Nodup := by
      have : (L'.map (·.2)).Nodup := (pm.map (·.2)).nodup_iff.mpr nd
      rw [h1] at this
      exact List.Pairwise.of_map enc (fun a b h z => h (congrArg enc z)) this
    have memM : ∀ b, b ∈ M ↔ b ∈ L := fun b => ⟨h3 b, fun hb => by
      have : enc b ∈ ks.map (·.2) := by rw [e2]; exact List.mem_map.mpr ⟨b, hb, rfl⟩
      obtain ⟨x, hx, ex⟩ := List.mem_map.mp this
      have := all x hx
      rw [ex] at this
      have := (pm.map (·.2)).mem_iff.mpr this
      rw [h1] at this
      obtain ⟨b', hb', eb⟩ := List.mem_map.mp this
      rw [← inj eb]
      exact hb'⟩
    have dpA : DpAll K (upd H a (NSetO w a Ls)) (L'.map fun p => V.ref p.1) (M.map fun b => nkD (enc b)) := by
      have : ∀ {xs : List V} {M : List β}, Paired (F (upd H a (NSetO w a Ls))) xs M → DpAll K (upd H a (NSetO w a Ls)) xs (M.map fun b => nkD (enc b)) := by
        intro xs M h
        induction h with
        | nil => exact .nil
        | cons h _ ih => exact .cons (dp _ _ _ h) ih
      exact this h2
    refine ⟨_, dpA, srt M, fun p hp => ?_⟩
    have kp2 : Kp (upd H a (NSetO w a Ls)) (upd (upd H a (NSetO w a Ls)) p (.lst (sortV (L'.map fun p => V.ref p.1) (M.map fun b => nkD (enc b))))) := Kp.new hp
    refine q _ p _ M (k1.trans kp2) (k1.free hp) upd_same (perm_dd ndM memM) ?_
    exact Paired.mono (fun _ _ z => S _ _ _ _ kp2.tk z) (sortV_paired (F := F (upd H a (NSetO w a Ls))) (enc := fun b => nkD (enc b)) h2)
/-- .. of tuples of numbers -/
theorem sort_set_its {K : PySem.W.Frag} {w : World} {H : Hp} {l : Addr} {vs : List V} {L : List (List Nat)} {Q : VK} (e : H l = some (.lst vs)) (its : ITs H vs L) (few : L.length < 64)
    (q : ∀ (H' : Hp) (p : Addr) (ws : List V), Kp H H' → H p = none → H' p = some (.lst ws) → ITs H' ws (sortU L) → Q (.ref p) H') :
    rSetN K w [.ref l] H fun y H1 => rSortC K (cSetN w) [y] H1 Q := by
  refine sort_set (enc := nkT) nkT_inj stab_it (fun _ _ _ h => ⟨_, h.choose_spec.1⟩) (fun _ _ b h => by rw [nkD_T]; exact h.dp) nums_T (fun b => Nat.le_trans (nkdep_T b) (by decide)) (fun b => ⟨_, rfl⟩) (fun l => ?_) (.inl (SqL.of e)) its few fun H' p ws M k h0 h1 pm pr => q H' p ws k h0 h1 ?_
  · have e : (l.map fun b => nkD (nkT b)) = l.map tD := List.map_congr_left fun b _ => nkD_T b
    rw [e]
    exact srt_t l
  · have e : (M.mergeSort fun a b => !PySem.W.dataLt (nkD (nkT b)) (nkD (nkT a))) = sortL M := by
      unfold sortL
      congr 1
      funext a b
      rw [nkD_T, nkD_T, tD_lt]
    rw [e, sortL_uniq pm] at pr
    exact pr
/-- .. of libraries of t texts -/
theorem sort_set_lib {K : PySem.W.Frag} {w : World} {H : Hp} {l : Addr} {t : Nat} {vs : List V} {L : List (List (List Nat))} {Q : VK} (e : SqL K H l vs ∨ SqT K H l vs) (its : Libs H t vs L) (few : L.length < 64)
    (q : ∀ (H' : Hp) (p : Addr) (ws : List V), Kp H H' → H p = none → H' p = some (.lst ws) → Libs H' t ws (sortM (dd L)) → Q (.ref p) H') :
    rSetN K w [.ref l] H fun y H1 => rSortC K (cSetN w) [y] H1 Q := by
  refine sort_set (F := fun H v l => Lib H v t l) (enc := nkL t) nkL_inj (stab_libt t) (fun _ _ _ h => by obtain ⟨a, b, xs, e, _⟩ := h; exact ⟨a, e⟩) (fun _ _ b h => by rw [nkD_L]; exact h.dp) (nums_L t) (fun b => Nat.le_trans (nkdep_L t b) (by decide)) (fun b => ⟨_, rfl⟩) (fun l => ?_) e its few fun H' p ws M k h0 h1 pm pr => q H' p ws k h0 h1 ?_
  · have e : (l.map fun b => nkD (nkL t b)) = l.map (libD t) := List.map_congr_left fun b _ => nkD_L t b
    rw [e]
    exact srt_lib t l
  · have e : (M.mergeSort fun a b => !PySem.W.dataLt (nkD (nkL t b)) (nkD (nkL t a))) = sortM M := by
      unfold sortM
      congr 1
      funext a b
      rw [nkD_L, nkD_L, lt_lib]
    rw [e, sortM_uniq pm] at pr
    exact pr
end MX
end

section
set_option Elab.async false
set_option linter.all false
set_option maxRecDepth 100000
set_option maxHeartbeats 4000000
namespace MX
open PySem PySem.Spec PyProof.Rows L2
theorem eq_one (x i : Nat) : decide (((x >>> i &&& 1 : Nat) : Int) = 1) = ((x >>> i) &&& 1 != 0) := by
  rw [Nat.and_one_is_mod]
  rcases Nat.mod_two_eq_zero_or_one (x >>> i) with h | h <;> rw [h] <;> rfl
def lawLefts (ms : List Nat) (many : Nat) : List (List Nat) := iter (fun f => sortU ((f.flatMap cuts).map inOrder)) many [ms]
section
variable {P : Program} {w : World} {K : PySem.W.Frag} {mg : Str → Option Value} {base : Heap} {f c : Addr} {fd : FuncData}
abbrev st_law_tablet : Stmt := topS 41
abbrev N_law_tablet : List Str := ["_law_mask_here", "_law_k"]
theorem sc_law_tablet : FnScope N_law_tablet ["_law_mask_here"] (defScope st_law_tablet) := ⟨rfl, rfl, rfl, by decide +kernel, rfl, by decide +kernel, by decide +kernel⟩
theorem cal_law_tablet (F : FunC K mg "_law_tablet" st_law_tablet f fd c) (B : Bi mg) : Cal P w K mg base 1 "_law_tablet" ["_law_mask_here"] sp_tablet_of := by
  refine F.cal sc_law_tablet spR_len (fun _ _ _ _ _ _ us hl => match us, hl with | [_], _ => rfl) (fun A outer s H vs Q hr h => ?_) spR_E
  refine ⟨_, (pss_one (ps_ret (pe_callTy (call_tuple_ofK K) (by rfl) B.tuple boot_tuple (pa_cons (pe_lc (own := [("_law_k", 1)]) rfl sc_law_tablet.nd (pi_range1 (by rfl) B.range (pa_cons pe_int pa_nil)) (blkOk_by (own := [("_law_k", 1)]) (N := N_law_tablet) (sc := defScope st_law_tablet) (by decide +kernel)) (fun _ _ _ _ _ => (pg_name (i := 1) sc_law_tablet.nd rfl (by first | exact Or.inl rfl | exact Or.inr rfl))) (fun _ _ _ _ _ => (pts_one (pt_cmpR op_eq (pe_op op_andN (pe_op op_shrNN (pv 0) (pv 1)) pe_int) pe_int (nomark _)))) (fun _ _ _ _ _ => (pv 1))) pa_nil)))), ?_⟩
  obtain ⟨_, x, rfl, k⟩ := h
  refine ⟨3, rfl, by decide, by decide, fun D hD => ?_⟩
  refine lc_range (lo := 0) (n := 3) (fun i H' => AccI H D (fun _ v (n : Nat) => v = nV n) ((List.range i).filter fun t => (x >>> t) &&& 1 != 0) H') (AccI.zero hD) ?_ ?_
  · intro i H' hi I
    refine ⟨rfl, ?_⟩
    refine ⟨_, rfl, _, rfl, x, i, rfl, (by show V.int (0 + _) = _; rw [Int.zero_add]), _, 1, rfl, rfl, rfl, _, rfl, ?_⟩
    rw [dec_nn, eq_one]
    refine ite_b (fun hb => ⟨_, rfl, ?_⟩) (fun hb => ?_)
    · exact I.push stab_nv hD (Kp.refl _) (by show V.int (0 + _) = _; rw [Int.zero_add]) (sl (Nat.le_trans (List.length_filter_le _ _) (by rw [List.length_range]; omega))) (by rw [List.range_succ]; exact fil_yes hb)
    · exact I.keep stab_nv (Kp.refl _) (by rw [List.range_succ]; exact fil_no hb)
  · rintro H' ⟨kp, acc, hacc, p⟩
    obtain rfl := nv_vals p
    refine ⟨_, _, rfl, .inl ⟨SqL.of hacc, fun l hl => ?_⟩⟩
    exact k _ _ (kp.trans (Kp.new hl)) ⟨l, rfl, upd_same⟩
abbrev st_law_sorted : Stmt := topS 42
abbrev N_law_sorted : List Str := ["_law_masks"]
theorem sc_law_sorted : FnScope N_law_sorted ["_law_masks"] (defScope st_law_sorted) := ⟨rfl, rfl, rfl, by decide +kernel, rfl, by decide +kernel, by decide +kernel⟩
theorem cal_law_sorted (F : FunC K mg "_law_sorted" st_law_sorted f fd c) (B : Bi mg) (C_law_tablet : Cal P w K mg base 1 "_law_tablet" ["_law_mask_here"] sp_tablet_of) : Cal P w K mg base 4 "_law_sorted" ["_law_masks"] sp_in_order := by
  obtain ⟨f_law_tablet, fdT, F_law_tablet, g_law_tablet, _, b_law_tablet⟩ := C_law_tablet.ex
  refine F.cal sc_law_sorted spR_len (fun _ _ _ _ _ _ us hl => match us, hl with | [_], _ => rfl) (fun A outer s H vs Q hr h => ?_) spR_E
  refine ⟨_, (pss_one (ps_ret (pe_callTy (call_tuple_ofK K) (by rfl) B.tuple boot_tuple (pa_cons (pe_callBK (cr_sortKK K (F := F_law_tablet) (hr := hr.mono (by decide)) (hb := b_law_tablet) (hc := (cl_seqK K)) (hu := un_of hr (by decide))) (by rfl) B.sorted boot_sorted (pa_cons (pv 0) pa_nil) (pk_cons (pe_glob (v := .ref f_law_tablet) (by rfl) g_law_tablet rfl) pk_nil)) pa_nil)))), ?_⟩
  obtain ⟨_, x, ⟨v, rfl, hv⟩, k⟩ := h
  have src : ∃ a, v = .ref a ∧ (SqL K H a (x.map nV) ∨ SqT K H a (x.map nV)) := by
    rcases hv with ⟨a, rfl, e⟩ | ⟨a, rfl, e⟩
    · exact ⟨a, rfl, .inr (SqT.of e)⟩
    · exact ⟨a, rfl, .inl (SqL.of e)⟩
  obtain ⟨a, rfl, hs⟩ := src
  refine ⟨_, rfl, _, rfl, rfl, a, _, rfl, hs, x.map fun n => tD (tabletOf n), by rw [List.length_map, List.length_map], srt_tab x, ?_, ?_⟩
  · intro i y d H' Q' hy hd kp q
    obtain ⟨n, hn, rfl⟩ := map_at hy
    rw [List.getElem?_map, hn] at hd
    cases hd
    exact ⟨rfl, n, rfl, fun v H2 k2 it => q v H2 k2 it.dp⟩
  · intro p H' hp kp hp'
    rw [sort_order (vals_nv x)]
    refine ⟨p, _, rfl, .inl ⟨SqL.of upd_same, fun q hq => ?_⟩⟩
    exact k _ _ ((kp.put hp).trans (Kp.new hq)) ⟨q, rfl, upd_same⟩
abbrev st_law_lefts : Stmt := topS 43
abbrev N_law_lefts : List Str := ["_law_masks", "_law_many", "_law_found", "_law_turn", "_law_longer", "_law_left", "_law_k"]
theorem sc_law_lefts : FnScope N_law_lefts ["_law_masks", "_law_many"] (defScope st_law_lefts) := ⟨rfl, rfl, rfl, by decide +kernel, rfl, by decide +kernel, by decide +kernel⟩
theorem lefts_ok {n : Nat} {ms : List Nat} (h : ms.length ≤ n) : ∀ i, ∀ x ∈ lawLefts ms i, x.length + i ≤ n ∨ x.length = 0
  | 0 => by
    intro x hx
    rw [List.mem_singleton.mp hx]
    exact .inl (by omega)
  | i + 1 => by
    intro x hx
    change x ∈ sortU (((lawLefts ms i).flatMap cuts).map inOrder) at hx
    rw [sortU_mem] at hx
    obtain ⟨y, hy, rfl⟩ := List.mem_map.mp hx
    obtain ⟨z, hz, hy⟩ := List.mem_flatMap.mp hy
    have ih := lefts_ok h i z hz
    rw [(inOrder_perm y).length_eq]
    unfold cuts at hy
    obtain ⟨k, hk, rfl⟩ := List.mem_map.mp hy
    have hk := List.mem_range.mp hk
    rw [List.length_append, List.length_take, List.length_drop]
    omega
theorem lefts_sub {ms : List Nat} {n : Nat} (h : ∀ x ∈ ms, x < n) : ∀ i, ∀ x ∈ lawLefts ms i, ∀ m ∈ x, m < n
  | 0 => by
    intro x hx
    rw [List.mem_singleton.mp hx]
    exact h
  | i + 1 => by
    intro x hx
    change x ∈ sortU (((lawLefts ms i).flatMap cuts).map inOrder) at hx
    rw [sortU_mem] at hx
    obtain ⟨y, hy, rfl⟩ := List.mem_map.mp hx
    obtain ⟨z, hz, hy⟩ := List.mem_flatMap.mp hy
    intro m hm
    rw [(inOrder_perm y).mem_iff] at hm
    unfold cuts at hy
    obtain ⟨k, hk, rfl⟩ := List.mem_map.mp hy
    rcases List.mem_append.mp hm with hm | hm
    · exact lefts_sub h i z hz m (List.mem_of_mem_take hm)
    · exact lefts_sub h i z hz m (List.mem_of_mem_drop hm)
theorem lefts_cnt {ms : List Nat} (h : ms.length ≤ 5) : ∀ i, i ≤ 2 → (lawLefts ms i).length * (5 - i) < 64 ∧ (lawLefts ms i).length ≤ 20
  | 0, _ => by
    show ([ms] : List (List Nat)).length * 5 < 64 ∧ ([ms] : List (List Nat)).length ≤ 20
    rw [List.length_singleton]
    decide
  | 1, _ => by
    have : (lawLefts ms 1).length ≤ ms.length := by
      show (sortU (([ms].flatMap cuts).map inOrder)).length ≤ _
      refine Nat.le_trans (sortU_len _) ?_
      rw [List.length_map]
      simp [cuts_len]
    omega
  | 2, _ => by
    have h1 : (lawLefts ms 1).length ≤ 5 := by
      show (sortU (([ms].flatMap cuts).map inOrder)).length ≤ _
      refine Nat.le_trans (sortU_len _) ?_
      rw [List.length_map]
      simp [cuts_len]
      exact h
    have : (lawLefts ms 2).length ≤ 5 * 4 := by
      show (sortU (((lawLefts ms 1).flatMap cuts).map inOrder)).length ≤ _
      refine Nat.le_trans (sortU_len _) ?_
      rw [List.length_map]
      refine Nat.le_trans (flat_len cuts 4 _ fun x hx => ?_) (Nat.mul_le_mul_right _ h1)
      rw [cuts_len]
      rcases lefts_ok h 1 x hx with q | q <;> omega
    omega
  | i + 3, hi => by omega
def sp_law_lefts : Sp := spR 2 (fun vs H (x : List Nat × Nat) => ∃ v, vs = [v, nV x.2] ∧ IT H v x.1 ∧ x.1.length ≤ 5 ∧ x.2 ≤ 2) fun x v H => LT H v (lawLefts x.1 x.2)
theorem cal_law_lefts (F : FunC K mg "_law_lefts" st_law_lefts f fd c) (B : Bi mg) (C_law_sorted : Cal P w K mg base 4 "_law_sorted" ["_law_masks"] sp_in_order) : Cal P w K mg base 5 "_law_lefts" ["_law_masks", "_law_many"] sp_law_lefts := by
  refine F.cal sc_law_lefts spR_len (fun _ _ _ _ _ _ us hl => match us, hl with | [_, _], _ => rfl) (fun A outer s H vs Q hr h => ?_) spR_E
  refine ⟨_, (pss_cons (ps_set (i := 2) sc_law_lefts.nd rfl (Or.inl rfl) (pe_lst (pa_cons (pe_callTy (call_tuple_ofK K) (by rfl) B.tuple boot_tuple (pa_cons (pv 0) pa_nil)) pa_nil)))
  (pss_cons (ps_for PassesOwn.never rfl (pi_range1 (by rfl) B.range (pa_cons (pv 1) pa_nil)) (pg_name (i := 3) sc_law_lefts.nd rfl (by first | exact Or.inl rfl | exact Or.inr rfl)) (pss_cons (ps_set (i := 4) sc_law_lefts.nd rfl (Or.inl rfl) (pe_lst pa_nil))
  (pss_cons (ps_for PassesOwn.never rfl (pi_listK K (hl := (pv 2))) (pg_name (i := 5) sc_law_lefts.nd rfl (by first | exact Or.inl rfl | exact Or.inr rfl)) (pss_one (ps_set (i := 4) sc_law_lefts.nd rfl (Or.inl rfl) (pe_op op_cat (pv 4) (pe_lc (own := [("_law_k", 6)]) rfl sc_law_lefts.nd (pi_range1 (by rfl) B.range (pa_cons (pe_callB (call_len_seqK K) (by rfl) B.len PySem.boot_len (pa_cons (pv 5) pa_nil)) pa_nil)) (blkOk_by (own := [("_law_k", 6)]) (N := N_law_lefts) (sc := defScope st_law_lefts) (by decide +kernel)) (fun _ _ _ _ _ => (pg_name (i := 6) sc_law_lefts.nd rfl (by first | exact Or.inl rfl | exact Or.inr rfl))) (fun _ _ _ _ _ => pts_nil) (fun _ _ _ _ _ => (pe_op (op_catAK K) (pe_slice (sl_tupAK K) (pv 5) po_none (po_some (pv 6))) (pe_slice (sl_tupAK K) (pv 5) (po_some (pe_op op_add (pv 6) pe_int)) po_none))))))))
  (pss_one (ps_set (i := 2) sc_law_lefts.nd rfl (Or.inl rfl) (pe_callB (cr_sortCK K (hc := (cl_setNK w rfl rfl)) (hu := un_of hr (by decide))) (by rfl) B.sorted boot_sorted (pa_cons (pe_callTy (cr_setNK K (w := w) (hw := rfl) (hc := rfl) (hu := un_of hr (by decide))) (by rfl) B.set boot_set (pa_cons (pe_lc (own := [("_law_left", 5)]) rfl sc_law_lefts.nd (pi_listK K (hl := (pv 4))) (blkOk_by (own := [("_law_left", 5)]) (N := N_law_lefts) (sc := defScope st_law_lefts) (by decide +kernel)) (fun _ _ _ _ _ => (pg_name (i := 5) sc_law_lefts.nd rfl (by first | exact Or.inl rfl | exact Or.inr rfl))) (fun _ _ _ _ _ => pts_nil) (fun _ _ _ _ _ => (pe_cal C_law_sorted hr (by decide) (by rfl) (pa_cons (pv 5) pa_nil)))) pa_nil)) pa_nil)))))))
  (pss_one (ps_ret (pv 2))))), ?_⟩
  obtain ⟨_, ⟨x, many⟩, ⟨_, rfl, ⟨a, rfl, e⟩, sz, mz⟩, k⟩ := h
  dsimp only at e sz mz
  refine ⟨_, rfl, a, _, rfl, .inr ⟨SqT.of e, ?_⟩⟩
  refine ⟨by show 1 ≤ sizeLine; decide, fun d0 hd0 => ?_⟩
  have k0 : Kp H (upd H d0 (.lst [.ref a])) := Kp.new hd0
  refine ⟨_, rfl, (many : Int), rfl, by omega, by omega, ?_⟩
  rw [Int.toNat_natCast]
  refine for_range (lo := 0) (n := many) (fun i σ H' => Kp H H' ∧ ∃ d vs o3 o4 o5, σ = [some (.ref a), some (nV many), some (.ref d), o3, o4, o5, none] ∧ H' d = some (.lst vs) ∧ ITs H' vs (lawLefts x i)) ⟨k0, d0, _, _, _, _, rfl, upd_same, .cons ⟨a, rfl, k0.tup e⟩ .nil⟩ ?_ ?_
  · rintro i σ H' hi ⟨kp, d, vs, o3, o4, o5, rfl, hd, its⟩
    have lk := lefts_ok sz i
    obtain ⟨cnt, cnt2⟩ := lefts_cnt sz i (by omega)
    have stepE : lawLefts x (i + 1) = sortU (((lawLefts x i).flatMap cuts).map inOrder) := rfl
    generalize lawLefts x i = Li at *
    refine ⟨Nat.zero_le _, fun l hl => ?_⟩
    have kl : Kp H' (upd H' l (.lst [])) := Kp.new hl
    refine ⟨_, rfl, d, rfl, ⟨_, SqL.of (kl.lst hd)⟩, for_list (K := K) (a := d) (xs := vs) (fun j σ H2 => Kp H' H2 ∧ ∃ l ls o5, σ = [some (.ref a), some (nV many), some (.ref d), some (.int (0 + (i : Int))), some (.ref l), o5, none] ∧ H2 l = some (.lst ls) ∧ ITs H2 ls ((Li.take j).flatMap cuts)) ⟨kl, l, [], _, rfl, upd_same, .nil⟩ (fun j σ H2 _ I => SqL.of (I.1.lst hd)) ?_ ?_⟩
    · rintro j y σ H2 hy ⟨k2, l, ls, o5, rfl, hl2, itl⟩
      obtain ⟨left, hleft, it0⟩ := Paired.at' its hy
      have it := it0.kp k2
      obtain ⟨b, rfl, eb⟩ := id it
      have l5 : left.length ≤ 5 := by
        rcases lk left (List.mem_of_getElem? hleft) with q | q <;> omega
      refine ⟨_, rfl, _, rfl, b, _, rfl, .inr (SqT.of eb), _, rfl, by rw [List.length_map]; omega, by rw [List.length_map]; omega, fun D hD => ?_⟩
      rw [List.length_map, Int.toNat_natCast]
      refine lc_range (lo := 0) (n := left.length) (fun m H3 => AccI H2 D IT ((cuts left).take m) H3) (AccI.zero hD) ?_ ?_
      · intro m H3 hm I
        have gm : (cuts left)[m]? = some (left.take m ++ left.drop (m + 1)) := by
          unfold cuts
          rw [List.getElem?_map, List.getElem?_range hm]
          rfl
        refine ⟨rfl, yes2 (cut_key (m := m) (left := left) rfl (by show some (some (V.int (0 + (m : Int)))) = _; rw [Int.zero_add]) (it.kp I.1) (by omega) fun u3 H6 k36 iu3 => ?_)⟩
        exact I.push stab_it hD k36 iu3 (sl (by rw [List.length_take, cuts_len]; omega)) (take_more gm)
      · rintro H3 ⟨k3, acc, hacc, p⟩
        rw [List.take_of_length_le (by rw [cuts_len]; exact Nat.le_refl _)] at p
        have bound : ((Li.take j).flatMap cuts).length ≤ 20 * 5 := by
          refine Nat.le_trans (flat_len cuts 5 _ fun z hz => ?_) (Nat.mul_le_mul_right _ (by rw [List.length_take]; omega))
          rw [cuts_len]
          rcases lk z (List.mem_of_mem_take hz) with q | q <;> omega
        refine ⟨l, D, ls, acc, rfl, rfl, k3.lst hl2, hacc, ?_, fun q hq => ?_⟩
        · rw [itl.length, p.length, cuts_len, sizeLine_eq]
          omega
        · have kq : Kp H3 (upd H3 q (.lst (ls ++ acc))) := Kp.new hq
          refine ⟨(k2.trans k3).trans kq, q, ls ++ acc, _, rfl, upd_same, ?_⟩
          rw [take_more hleft, List.flatMap_append]
          have : ([left].flatMap cuts) = cuts left := by simp
          rw [this]
          exact Paired.app (ITs.tk itl (k3.tk.trans kq.tk)) (ITs.tk p kq.tk)
    · rintro σ H2 ⟨k2, l, ls, o5, rfl, hl2, itl⟩
      rw [its.length, List.take_length] at itl
      have bound : (Li.flatMap cuts).length < 64 := by
        refine Nat.lt_of_le_of_lt (flat_len cuts (5 - i) _ fun z hz => ?_) cnt
        rw [cuts_len]
        rcases lk z hz with q | q <;> omega
      generalize hlong : Li.flatMap cuts = long at *
      refine ⟨_, rfl, l, rfl, ⟨_, SqL.of hl2⟩, fun D hD => ?_⟩
      refine turns_list (xs := ls) (fun m H3 => AccI H2 D IT ((long.map inOrder).take m) H3) (AccI.zero hD) (fun m H3 I => SqL.of (I.1.lst hl2)) ?_ ?_
      · intro m y H3 hy I
        obtain ⟨z, hz, itz⟩ := Paired.at' itl hy
        refine ⟨rfl, yes2 ⟨_, rfl, rfl, z, ⟨y, rfl, .inl (itz.kp I.1)⟩, ?_⟩⟩
        rintro u H4 k4 iu
        exact I.push stab_it hD k4 iu (sl (Nat.le_trans (by rw [List.length_take, List.length_map]; exact Nat.min_le_right _ _) (Nat.le_trans (Nat.le_of_lt bound) (by decide)))) (take_more (by rw [List.getElem?_map, hz]; rfl))
      · rintro H3 ⟨k3, acc, hacc, p⟩
        have e5 : ls.length = (long.map inOrder).length := by rw [List.length_map]; exact itl.length
        rw [e5, List.take_length] at p
        show rSetN K w [V.ref D] H3 fun y H1 => rSortC K (cSetN w) [y] H1 fun x_2 H1 => gName 2 x_2 _ H1 _
        refine sort_set_its hacc p (by rw [List.length_map]; exact bound) fun H4 pp ws k4 h0 h1 h2 => ?_
        refine ⟨((kp.trans k2).trans k3).trans k4, pp, ws, _, _, _, rfl, h1, ?_⟩
        rw [stepE]
        exact h2
  · rintro σ H' ⟨kp, d, vs, o3, o4, o5, rfl, hd, its⟩
    exact ⟨_, rfl, k _ _ kp ⟨d, vs, rfl, hd, its⟩⟩
end
end MX
end

section
set_option Elab.async false
set_option linter.all false
set_option maxRecDepth 100000
set_option maxHeartbeats 4000000
namespace MX
open PySem PySem.Spec PyProof.Rows L2
/-- rising, each once -/
def sortN (l : List Nat) : List Nat := (dd l).mergeSort fun a b => decide (a ≤ b)
theorem sortN_mem {l : List Nat} {x : Nat} : x ∈ sortN l ↔ x ∈ l := by
  unfold sortN
  rw [List.mem_mergeSort, dd_mem]
theorem sortN_pw (l : List Nat) : (sortN l).Pairwise fun a b => a ≤ b := by
  have := List.pairwise_mergeSort (le := fun a b : Nat => decide (a ≤ b)) (fun a b c h1 h2 => by
    simp only [decide_eq_true_eq] at h1 h2 ⊢
    omega) (fun a b => by
    simp only [Bool.or_eq_true, decide_eq_true_eq]
    omega) (dd l)
  exact this.imp fun h => by simpa using h
theorem sortN_nodup (l : List Nat) : (sortN l).Nodup := (List.mergeSort_perm _ _).nodup_iff.mpr (dd_nodup l)
theorem sortN_len (l : List Nat) : (sortN l).length ≤ l.length := by
  unfold sortN dd
  rw [List.length_mergeSort]
  have := putNs_len l []
  simpa using this
theorem ints_rise {ns : List Int} {L : List Nat} (h1 : ns.Pairwise (· < ·)) (h2 : ∀ k : Int, k ∈ ns ↔ k ∈ L.map fun (n : Nat) => (n : Int)) : ns = (sortN L).map fun (n : Nat) => (n : Int) := by
  have nd1 : ns.Nodup := h1.imp fun h => by omega
  have nd2 : ((sortN L).map fun (n : Nat) => (n : Int)).Nodup := (sortN_nodup L).map _ fun a b h z => h (by omega)
  refine List.Perm.eq_of_pairwise (le := fun a b : Int => a ≤ b) (fun a b _ _ x y => by omega) (h1.imp fun h => by omega) ?_ ((List.perm_ext_iff_of_nodup nd1 nd2).mpr fun k => ?_)
  · exact (sortN_pw L).map _ fun a b h => by omega
  · rw [h2, List.mem_map, List.mem_map]
    constructor
    · rintro ⟨n, hn, e⟩
      exact ⟨n, sortN_mem.mpr hn, e⟩
    · rintro ⟨n, hn, e⟩
      exact ⟨n, sortN_mem.mp hn, e⟩
theorem sort_setI {K : PySem.W.Frag} {w : World} {H : Hp} {l : Addr} {L : List Nat} {Q : VK} (e : H l = some (.lst (L.map nV))) (few : L.length < 64)
    (q : ∀ (H' : Hp) (p : Addr), Kp H H' → H p = none → H' p = some (.lst ((sortN L).map nV)) → Q (.ref p) H') :
    rSetI K w [.ref l] H fun y H1 => rSortedSet w [y] H1 Q := by
  refine ⟨l, L.map fun (n : Nat) => (n : Int), rfl, SqL.of (by rw [List.map_map]; exact e), by rw [List.length_map]; exact few, fun a c ha hc => ?_⟩
  rw [List.length_map] at hc
  refine ⟨a, _, c, rfl, upd_same, by omega, fun ns p h1 h2 h3 hp => ?_⟩
  have e2 := ints_rise (L := L) h1 fun k => by rw [h2]; simp
  rw [e2, List.map_map]
  exact q _ p ((Kp.new ha).trans (Kp.new hp)) ((Kp.new ha).free hp) upd_same
/-! ### _law_spans -/
def spansStep (f : List Nat) (m : Nat) : List Nat := f ++ (f.map fun o => o ^^^ m).filter fun o => !decide (o ∈ f)
def spansF (ms : List Nat) : List Nat := ms.foldl spansStep [0]
theorem spans_len : ∀ (ms f : List Nat), (ms.foldl spansStep f).length ≤ f.length * 2 ^ ms.length
  | [], f => by simp
  | m :: ms, f => by
    rw [List.foldl_cons]
    refine Nat.le_trans (spans_len ms (spansStep f m)) ?_
    have h : (spansStep f m).length ≤ f.length * 2 := by
      unfold spansStep
      rw [List.length_append]
      have := List.length_filter_le (fun o => !decide (o ∈ f)) (f.map fun o => o ^^^ m)
      rw [List.length_map] at this
      omega
    rw [List.length_cons, Nat.pow_succ, Nat.mul_comm (2 ^ ms.length) 2, ← Nat.mul_assoc]
    exact Nat.mul_le_mul_right _ h
theorem spans_le {ms : List Nat} (h : ms.length ≤ 5) (i : Nat) : (spansF (ms.take i)).length ≤ 32 := by
  refine Nat.le_trans (spans_len _ _) ?_
  have h2 : (ms.take i).length ≤ 5 := by rw [List.length_take]; omega
  have h3 := Nat.pow_le_pow_right (n := 2) (by decide) h2
  have e : ([0] : List Nat).length = 1 := rfl
  rw [e, Nat.one_mul]
  exact Nat.le_trans h3 (by decide)
def lawKeeps (t : Nat) (ms : List Nat) : Bool := decide ((sortN (spansF ms)).length = 1 <<< t)
section
variable {P : Program} {w : World} {K : PySem.W.Frag} {mg : Str → Option Value} {base : Heap} {f c : Addr} {fd : FuncData}
abbrev st_law_spans : Stmt := topS 44
abbrev N_law_spans : List Str := ["_law_masks", "_law_found", "_law_mask_here", "_law_one"]
theorem sc_law_spans : FnScope N_law_spans ["_law_masks"] (defScope st_law_spans) := ⟨rfl, rfl, rfl, by decide +kernel, rfl, by decide +kernel, by decide +kernel⟩
def sp_law_spans : Sp := spR 1 (fun vs H (x : List Nat) => ∃ v, vs = [v] ∧ IT H v x ∧ x.length ≤ 5) fun x v H => LN H v (sortN (spansF x))
theorem cal_law_spans (F : FunC K mg "_law_spans" st_law_spans f fd c) (B : Bi mg) : Cal P w K mg base 1 "_law_spans" ["_law_masks"] sp_law_spans := by
  refine F.cal sc_law_spans spR_len (fun _ _ _ _ _ _ us hl => match us, hl with | [_], _ => rfl) (fun A outer s H vs Q hr h => ?_) spR_E
  refine ⟨_, (pss_cons (ps_set (i := 1) sc_law_spans.nd rfl (Or.inr rfl) (pe_lst (pa_cons pe_int pa_nil)))
  (pss_cons (ps_for PassesOwn.never rfl (pi_tupK K (hl := (pv 0))) (pg_name (i := 2) sc_law_spans.nd rfl (by first | exact Or.inl rfl | exact Or.inr rfl)) (pss_one (ps_set (i := 1) sc_law_spans.nd rfl (Or.inr rfl) (pe_op op_cat (pv 1) (pe_lc (own := [("_law_one", 3)]) rfl sc_law_spans.nd (pi_listK K (hl := (pv 1))) (blkOk_by (own := [("_law_one", 3)]) (N := N_law_spans) (sc := defScope st_law_spans) (by decide +kernel)) (fun _ _ _ _ _ => (pg_name (i := 3) sc_law_spans.nd rfl (by first | exact Or.inl rfl | exact Or.inr rfl))) (fun _ _ _ _ _ => (pts_one (pt_cmpR (op_notIn_seqK K) (pe_op op_xorN (pv 3) (pv 2)) (pv 1) (by rfl)))) (fun _ _ _ _ _ => (pe_op op_xorN (pv 3) (pv 2))))))))
  (pss_one (ps_ret (pe_callB (cr_sortedSetK w rfl rfl) (by rfl) B.sorted boot_sorted (pa_cons (pe_callTy (cr_setIK K w rfl rfl rfl (un_of hr (by decide))) (by rfl) B.set boot_set (pa_cons (pv 1) pa_nil)) pa_nil)))))), ?_⟩
  obtain ⟨_, x, ⟨_, rfl, ⟨a, rfl, e⟩, sz⟩, k⟩ := h
  refine ⟨by show 1 ≤ sizeLine; decide, fun d0 hd0 => ?_⟩
  refine ⟨_, rfl, a, rfl, ⟨_, SqT.of ((Kp.new hd0).tup e)⟩, for_tup (K := K) (a := a) (xs := x.map nV) (fun i σ H' => Kp H H' ∧ ∃ d o2, σ = [some (.ref a), some (.ref d), o2, none] ∧ H' d = some (.lst ((spansF (x.take i)).map nV))) ⟨Kp.new hd0, d0, _, rfl, upd_same⟩ (fun i σ H' _ I => SqT.of (I.1.tup e)) ?_ ?_⟩
  · rintro i y σ H' hy ⟨kp, d, o2, rfl, hd⟩
    obtain ⟨n, hn, rfl⟩ := map_at hy
    have step : spansF (x.take (i + 1)) = spansStep (spansF (x.take i)) n := by rw [take_more hn]; unfold spansF; rw [List.foldl_append]; rfl
    have len := spans_le sz i
    generalize spansF (x.take i) = f at *
    refine ⟨_, rfl, _, rfl, d, rfl, ⟨_, SqL.of hd⟩, fun D hD => ?_⟩
    refine turns_list (xs := f.map nV) (fun j H2 => AccI H' D (fun _ v (n : Nat) => v = nV n) (((f.take j).map fun o => o ^^^ n).filter fun o => !decide (o ∈ f)) H2) (AccI.zero hD) (fun j H2 I => SqL.of (I.1.lst hd)) ?_ ?_
    · intro j y H2 hy I
      obtain ⟨q, hq, rfl⟩ := map_at hy
      have more : ((f.take (j + 1)).map fun o => o ^^^ n) = ((f.take j).map fun o => o ^^^ n) ++ [q ^^^ n] := by rw [take_more hq, List.map_append]; rfl
      refine ⟨rfl, _, rfl, _, rfl, q, n, rfl, rfl, _, rfl, d, _, rfl, .inl (SqL.of (I.1.lst hd)), rfl, flat_nat _, _, rfl, ?_⟩
      rw [inV_nat]
      refine ite_b (fun hb => ⟨_, rfl, _, rfl, q, n, rfl, rfl, ?_⟩) (fun hb => ?_)
      · exact I.push stab_nv hD (Kp.refl _) rfl (sl (Nat.le_trans (List.length_filter_le _ _) (by rw [List.length_map, List.length_take]; omega))) (by rw [more]; exact fil_yes hb)
      · exact I.keep stab_nv (Kp.refl _) (by rw [more]; exact fil_no hb)
    · rintro H2 ⟨k2, acc, hacc, p⟩
      rw [List.length_map, List.take_length] at p
      obtain rfl := nv_vals p
      refine ⟨d, D, _, _, rfl, rfl, k2.lst hd, hacc, ?_, fun q hq => ?_⟩
      · rw [List.length_map, List.length_map, sizeLine_eq]
        have := List.length_filter_le (fun o => !decide (o ∈ f)) (f.map fun o => o ^^^ n)
        rw [List.length_map] at this
        omega
      · refine ⟨(kp.trans k2).trans (Kp.new hq), q, _, rfl, ?_⟩
        rw [step, spansStep, List.map_append]
        exact upd_same
  · rintro σ H' ⟨kp, d, o2, rfl, hd⟩
    have len := spans_le sz x.length
    rw [List.take_length] at len
    rw [List.length_map, List.take_length] at hd
    refine ⟨_, rfl, ?_⟩
    show rSetI K w [V.ref d] H' fun y H1 => rSortedSet w [y] H1 fun x_2 H1 => Q x_2 H1
    refine sort_setI hd (by omega) fun H4 p k4 h0 h1 => ?_
    exact k _ _ (kp.trans k4) ⟨p, rfl, h1⟩
abbrev st_law_keeps : Stmt := topS 45
abbrev N_law_keeps : List Str := ["_law_texts", "_law_masks"]
theorem sc_law_keeps : FnScope N_law_keeps ["_law_texts", "_law_masks"] (defScope st_law_keeps) := ⟨rfl, rfl, rfl, by decide +kernel, rfl, by decide +kernel, by decide +kernel⟩
def sp_law_keeps : Sp := spR 2 (fun vs H (x : Nat × List Nat) => ∃ v, vs = [nV x.1, v] ∧ IT H v x.2 ∧ x.2.length ≤ 5 ∧ x.1 ≤ 9) fun x v _ => v = .bl (lawKeeps x.1 x.2)
theorem cal_law_keeps (F : FunC K mg "_law_keeps" st_law_keeps f fd c) (B : Bi mg) (C_law_spans : Cal P w K mg base 1 "_law_spans" ["_law_masks"] sp_law_spans) : Cal P w K mg base 2 "_law_keeps" ["_law_texts", "_law_masks"] sp_law_keeps := by
  refine F.cal sc_law_keeps spR_len (fun _ _ _ _ _ _ us hl => match us, hl with | [_, _], _ => rfl) (fun A outer s H vs Q hr h => ?_) spR_E
  refine ⟨_, (pss_one (ps_ret (pe_cmpR op_eq (pe_callB (call_len_seqK K) (by rfl) B.len PySem.boot_len (pa_cons (pe_cal C_law_spans hr (by decide) (by rfl) (pa_cons (pv 1) pa_nil)) pa_nil)) (pe_op op_shlNN pe_int (pv 0)) (nomark _)))), ?_⟩
  obtain ⟨_, ⟨t, x⟩, ⟨v, rfl, e, sz, st⟩, k⟩ := h
  refine ⟨_, rfl, rfl, x, ⟨v, rfl, e, sz⟩, ?_⟩
  rintro u H1 k1 ⟨d, rfl, hd⟩
  refine ⟨d, _, rfl, .inl (SqL.of hd), _, rfl, t, rfl, rfl, Nat.le_trans (show t ≤ 9 from st) (by decide), rfl, ?_⟩
  refine k _ _ k1 ?_
  dsimp only
  rw [List.length_map, dec_nn]
  congr 1
  unfold lawKeeps
  exact decide_eq_decide.mpr ⟨fun z => by omega, fun z => by omega⟩
abbrev st_law_mask : Stmt := topS 50
abbrev N_law_mask : List Str := ["_law_tablet_here", "_law_found", "_law_text"]
theorem sc_law_mask : FnScope N_law_mask ["_law_tablet_here"] (defScope st_law_mask) := ⟨rfl, rfl, rfl, by decide +kernel, rfl, by decide +kernel, by decide +kernel⟩
theorem mask_take {l : List Nat} {i n : Nat} (h : l[i]? = some n) : maskOf (l.take (i + 1)) = maskOf (l.take i) + (1 <<< n) := by
  unfold maskOf
  rw [take_more h, List.map_append, List.sum_append]
  simp
theorem cal_law_mask (F : FunC K mg "_law_mask" st_law_mask f fd c) (B : Bi mg) : Cal P w K mg base 1 "_law_mask" ["_law_tablet_here"] sp_mask_of := by
  refine F.cal sc_law_mask spR_len (fun _ _ _ _ _ _ us hl => match us, hl with | [_], _ => rfl) (fun A outer s H vs Q hr h => ?_) spR_E
  refine ⟨_, (pss_cons (ps_set (i := 1) sc_law_mask.nd rfl (Or.inl rfl) pe_int)
  (pss_cons (ps_for PassesOwn.never rfl (pi_tupK K (hl := (pv 0))) (pg_name (i := 2) sc_law_mask.nd rfl (by first | exact Or.inl rfl | exact Or.inr rfl)) (pss_one (ps_set (i := 1) sc_law_mask.nd rfl (Or.inl rfl) (pe_op op_add (pv 1) (pe_op op_shlNN pe_int (pv 2))))))
  (pss_one (ps_ret (pv 1))))), ?_⟩
  obtain ⟨_, x, ⟨_, rfl, ⟨a, rfl, e⟩, s1, s2⟩, k⟩ := h
  refine ⟨_, rfl, a, rfl, ⟨_, SqT.of e⟩, for_tup (K := K) (a := a) (xs := x.map nV) (fun i σ H' => H' = H ∧ ∃ o2, σ = [some (.ref a), some (nV (maskOf (x.take i))), o2]) ⟨rfl, _, rfl⟩ (fun i σ H' _ I => by rw [I.1]; exact SqT.of e) ?_ ?_⟩
  · rintro i y σ H' hy ⟨rfl, o2, rfl⟩
    obtain ⟨n, hn, rfl⟩ := map_at hy
    refine ⟨_, rfl, _, rfl, n, rfl, rfl, s2 n (List.mem_of_getElem? hn), _, _, rfl, rfl, ?_⟩
    refine ⟨rfl, some (nV n), ?_⟩
    rw [mask_take hn]
    rfl
  · rintro σ H' ⟨rfl, o2, rfl⟩
    rw [List.length_map, List.take_length]
    exact ⟨_, rfl, k _ _ (Kp.refl _) rfl⟩
abbrev st_law_power : Stmt := topS 55
abbrev N_law_power : List Str := ["_law_number", "_law_many", "_law_found", "_law_turn"]
theorem sc_law_power : FnScope N_law_power ["_law_number", "_law_many"] (defScope st_law_power) := ⟨rfl, rfl, rfl, by decide +kernel, rfl, by decide +kernel, by decide +kernel⟩
def sp_law_power : Sp := spR 2 (fun vs H (x : Nat × Nat) => vs = [nV x.1, nV x.2] ∧ x.1 ≤ 4 ∧ x.2 ≤ 4) fun x v _ => v = nV (x.1 ^ x.2)
theorem cal_law_power (F : FunC K mg "_law_power" st_law_power f fd c) (B : Bi mg) : Cal P w K mg base 1 "_law_power" ["_law_number", "_law_many"] sp_law_power := by
  refine F.cal sc_law_power spR_len (fun _ _ _ _ _ _ us hl => match us, hl with | [_, _], _ => rfl) (fun A outer s H vs Q hr h => ?_) spR_E
  refine ⟨_, (pss_cons (ps_set (i := 2) sc_law_power.nd rfl (Or.inl rfl) pe_int)
  (pss_cons (ps_for PassesOwn.never rfl (pi_range1 (by rfl) B.range (pa_cons (pv 1) pa_nil)) (pg_name (i := 3) sc_law_power.nd rfl (by first | exact Or.inl rfl | exact Or.inr rfl)) (pss_one (ps_set (i := 2) sc_law_power.nd rfl (Or.inl rfl) (pe_op op_mulW (pv 2) (pv 0)))))
  (pss_one (ps_ret (pv 2))))), ?_⟩
  obtain ⟨_, ⟨a, n⟩, ⟨rfl, ha, hn⟩, k⟩ := h
  dsimp only at ha hn
  refine ⟨_, rfl, (n : Int), rfl, by omega, by omega, ?_⟩
  rw [Int.toNat_natCast]
  refine for_range (lo := 0) (n := n) (fun i σ H' => H' = H ∧ ∃ o3, σ = [some (nV a), some (nV n), some (nV (a ^ i)), o3]) ⟨rfl, _, rfl⟩ ?_ ?_
  · rintro i σ H' hi ⟨rfl, o3, rfl⟩
    refine ⟨_, rfl, _, rfl, _, _, rfl, rfl, ?_⟩
    have b1 : a ^ i ≤ 256 := Nat.le_trans (Nat.pow_le_pow_left ha i) (Nat.le_trans (Nat.pow_le_pow_right (by decide) (by omega : i ≤ 4)) (by decide))
    refine ⟨wide_mul (a := 9) (b := 3) (by rw [Int.natAbs_natCast]; omega) (by rw [Int.natAbs_natCast]; omega) (by decide) (by decide) (by decide), rfl, some (V.int (0 + (i : Int))), ?_⟩
    show [some (nV a), some (nV n), some (V.int ((a ^ i : Nat) * (a : Nat) : Int)), some (V.int (0 + (i : Int)))] = _
    rw [Nat.pow_succ, ← Int.natCast_mul]
  · rintro σ H' ⟨rfl, o3, rfl⟩
    exact ⟨_, rfl, k _ _ (Kp.refl _) rfl⟩
abbrev st_law_writings : Stmt := topS 46
abbrev N_law_writings : List Str := ["_law_masks", "_law_most", "_law_found", "_law_row", "_law_turn", "_law_longer", "_law_start", "_law_value", "_law_k"]
theorem sc_law_writings : FnScope N_law_writings ["_law_masks", "_law_most"] (defScope st_law_writings) := ⟨rfl, rfl, rfl, by decide +kernel, rfl, by decide +kernel, by decide +kernel⟩
/-- what follows (start, value) -/
def nextW (ms : List Nat) (p : Nat × Nat) : List (Nat × Nat) := (List.range' p.1 (ms.length - p.1)).map fun k => (k + 1, p.2 ^^^ ms.getD k 0)
def writS (ms : List Nat) : Nat → List (Nat × Nat) × List Nat
  | 0 => ([(0, 0)], [0])
  | i + 1 => ((writS ms i).1.flatMap (nextW ms), (writS ms i).2 ++ ((writS ms i).1.flatMap (nextW ms)).map (·.2))
def lawWrit (ms : List Nat) (most : Nat) : List Nat := sortN (writS ms most).2
def wgt (n : Nat) (l : List (Nat × Nat)) : Nat := (l.map fun p => 2 ^ (n - p.1)).sum
theorem wgt_app (n : Nat) (l m : List (Nat × Nat)) : wgt n (l ++ m) = wgt n l + wgt n m := by unfold wgt; rw [List.map_append, List.sum_append]
theorem wgt_range (n : Nat) (g : Nat → Nat) : ∀ (c s : Nat), s + c = n → wgt n ((List.range' s c).map fun k => (k + 1, g k)) + 1 = 2 ^ c
  | 0, s, h => rfl
  | c + 1, s, h => by
    rw [List.range'_succ, List.map_cons, show ∀ x (l : List (Nat × Nat)), x :: l = [x] ++ l from fun _ _ => rfl, wgt_app]
    have ih := wgt_range n g c (s + 1) (by omega)
    have : wgt n [(s + 1, g s)] = 2 ^ c := by
      unfold wgt
      simp only [List.map_cons, List.map_nil, List.sum_cons, List.sum_nil]
      rw [show n - (s + 1) = c by omega]
      omega
    rw [this, Nat.pow_succ]
    omega
theorem wgt_next {ms : List Nat} {p : Nat × Nat} (h : p.1 ≤ ms.length) : wgt ms.length (nextW ms p) + 1 = 2 ^ (ms.length - p.1) := wgt_range _ _ _ _ (by omega)
theorem next_le {ms : List Nat} {p q : Nat × Nat} (h : q ∈ nextW ms p) : q.1 ≤ ms.length ∧ p.1 < q.1 := by
  unfold nextW at h
  obtain ⟨k, hk, rfl⟩ := List.mem_map.mp h
  have := List.mem_range'_1.mp hk
  exact ⟨by show k + 1 ≤ _; omega, by show p.1 < k + 1; omega⟩
theorem wgt_flat {ms : List Nat} : ∀ {l : List (Nat × Nat)}, (∀ p ∈ l, p.1 ≤ ms.length) → wgt ms.length (l.flatMap (nextW ms)) + l.length = wgt ms.length l
  | [], _ => rfl
  | p :: l, h => by
    rw [List.flatMap_cons, wgt_app, List.length_cons]
    have h1 := wgt_next (h p (by simp))
    have h2 := wgt_flat (l := l) fun q hq => h q (by simp [hq])
    have h3 : wgt ms.length (p :: l) = 2 ^ (ms.length - p.1) + wgt ms.length l := by unfold wgt; simp
    omega
theorem writ_start (ms : List Nat) : ∀ i, ∀ p ∈ (writS ms i).1, p.1 ≤ ms.length
  | 0 => by
    intro p hp
    rw [List.mem_singleton.mp hp]
    exact Nat.zero_le _
  | i + 1 => by
    intro p hp
    obtain ⟨q, hq, h⟩ := List.mem_flatMap.mp hp
    exact (next_le h).1
/-- no more than all subsets -/
theorem writ_len (ms : List Nat) : ∀ i, (writS ms i).2.length + wgt ms.length (writS ms i).1 ≤ 2 ^ ms.length + (writS ms i).1.length
  | 0 => by
    show 1 + wgt ms.length [(0, 0)] ≤ 2 ^ ms.length + 1
    have : wgt ms.length [(0, 0)] = 2 ^ ms.length := by unfold wgt; simp
    omega
  | i + 1 => by
    have ih := writ_len ms i
    have h := wgt_flat (writ_start ms i)
    show ((writS ms i).2 ++ ((writS ms i).1.flatMap (nextW ms)).map (·.2)).length + wgt ms.length ((writS ms i).1.flatMap (nextW ms)) ≤ 2 ^ ms.length + ((writS ms i).1.flatMap (nextW ms)).length
    rw [List.length_append, List.length_map]
    omega
theorem writ_rows {ms : List Nat} : ∀ i, (writS ms i).1.length ≤ wgt ms.length (writS ms i).1 := by
  intro i
  generalize (writS ms i).1 = l
  induction l with
  | nil => exact Nat.zero_le _
  | cons p l ih =>
    have : 0 < 2 ^ (ms.length - p.1) := Nat.pow_pos (by decide)
    have h3 : wgt ms.length (p :: l) = 2 ^ (ms.length - p.1) + wgt ms.length l := by unfold wgt; simp
    rw [List.length_cons]
    omega
theorem wgt_down {ms : List Nat} : ∀ i, wgt ms.length (writS ms i).1 ≤ 2 ^ ms.length
  | 0 => by
    show wgt ms.length [(0, 0)] ≤ _
    unfold wgt
    simp
  | i + 1 => by
    have ih := wgt_down (ms := ms) i
    have h := wgt_flat (writ_start ms i)
    show wgt ms.length ((writS ms i).1.flatMap (nextW ms)) ≤ _
    omega
theorem writ_small {ms : List Nat} (h : ms.length ≤ 5) (i : Nat) : (writS ms i).2.length ≤ 32 ∧ (writS ms i).1.length ≤ 32 := by
  have h1 := writ_len ms i
  have h2 := writ_rows (ms := ms) i
  have h3 := wgt_down (ms := ms) i
  have h4 : 2 ^ ms.length ≤ 32 := Nat.le_trans (Nat.pow_le_pow_right (by decide) h) (by decide)
  omega
def sp_law_writings : Sp := spR 2 (fun vs H (x : List Nat × Nat) => ∃ v, vs = [v, nV x.2] ∧ IT H v x.1 ∧ x.1.length ≤ 5 ∧ x.2 ≤ 3) fun x v H => LN H v (lawWrit x.1 x.2)
abbrev PT (H : Hp) (v : V) (p : Nat × Nat) : Prop := IT H v [p.1, p.2]
theorem stab_pt : Stab PT := fun _ _ _ _ k h => IT.tk h k
theorem cal_law_writings (F : FunC K mg "_law_writings" st_law_writings f fd c) (B : Bi mg) : Cal P w K mg base 1 "_law_writings" ["_law_masks", "_law_most"] sp_law_writings := by
  refine F.cal sc_law_writings spR_len (fun _ _ _ _ _ _ us hl => match us, hl with | [_, _], _ => rfl) (fun A outer s H vs Q hr h => ?_) spR_E
  refine ⟨_, (pss_cons (ps_par (i := 2) (j := 3) (by rfl) sc_law_writings.nd rfl rfl (by decide) rfl rfl (pa_cons (pe_lst (pa_cons pe_int pa_nil)) (pa_cons (pe_lst (pa_cons (pe_tup (pa_cons pe_int (pa_cons pe_int pa_nil))) pa_nil)) pa_nil)) (by rfl))
  (pss_cons (ps_for PassesOwn.never rfl (pi_range1 (by rfl) B.range (pa_cons (pv 1) pa_nil)) (pg_name (i := 4) sc_law_writings.nd rfl (by first | exact Or.inl rfl | exact Or.inr rfl)) (pss_cons (ps_set (i := 5) sc_law_writings.nd rfl (Or.inl rfl) (pe_lst pa_nil))
  (pss_cons (ps_for PassesOwn.never rfl (pi_listK K (hl := (pv 3))) (pg_tupK K (n := 2) (hc := rfl) (h := (pgs_cons (pg_name (i := 6) sc_law_writings.nd rfl (by first | exact Or.inl rfl | exact Or.inr rfl)) (pgs_cons (pg_name (i := 7) sc_law_writings.nd rfl (by first | exact Or.inl rfl | exact Or.inr rfl)) pgs_nil)))) (pss_one (ps_for PassesOwn.never rfl (pi_range2 (by rfl) B.range (pa_cons (pv 6) (pa_cons (pe_callB (call_len_seqK K) (by rfl) B.len PySem.boot_len (pa_cons (pv 0) pa_nil)) pa_nil))) (pg_name (i := 8) sc_law_writings.nd rfl (by first | exact Or.inl rfl | exact Or.inr rfl)) (pss_one (ps_expr (pe_bm PySem.F.plainAttrs_list PySem.F.slot_list_append PySem.F.type_list_append mt_append (pv 5) (pa_cons (pe_tup (pa_cons (pe_op op_add (pv 8) pe_int) (pa_cons (pe_op op_xorN (pv 7) (pe_ix (ix_tupK K) (pv 0) (pv 8) (fun _ _ => rfl))) pa_nil))) pa_nil)))))))
  (pss_cons (ps_set (i := 3) sc_law_writings.nd rfl (Or.inl rfl) (pv 5))
  (pss_one (ps_set (i := 2) sc_law_writings.nd rfl (Or.inl rfl) (pe_op op_cat (pv 2) (pe_lc (own := [("_law_start", 6), ("_law_value", 7)]) rfl sc_law_writings.nd (pi_listK K (hl := (pv 3))) (blkOk_by (own := [("_law_start", 6), ("_law_value", 7)]) (N := N_law_writings) (sc := defScope st_law_writings) (by decide +kernel)) (fun _ _ _ _ _ => (pg_tupK K (n := 2) (hc := rfl) (h := (pgs_cons (pg_name (i := 6) sc_law_writings.nd rfl (by first | exact Or.inl rfl | exact Or.inr rfl)) (pgs_cons (pg_name (i := 7) sc_law_writings.nd rfl (by first | exact Or.inl rfl | exact Or.inr rfl)) pgs_nil))))) (fun _ _ _ _ _ => pts_nil) (fun _ _ _ _ _ => (pv 7))))))))))
  (pss_one (ps_ret (pe_callB (cr_sortedSetK w rfl rfl) (by rfl) B.sorted boot_sorted (pa_cons (pe_callTy (cr_setIK K w rfl rfl rfl (un_of hr (by decide))) (by rfl) B.set boot_set (pa_cons (pv 2) pa_nil)) pa_nil)))))), ?_⟩
  obtain ⟨_, ⟨x, most⟩, ⟨_, rfl, ⟨a, rfl, e⟩, sz, mz⟩, k⟩ := h
  dsimp only at e sz mz
  refine ⟨by show 1 ≤ sizeLine; decide, fun d0 hd0 => ?_⟩
  refine ⟨by show 2 ≤ sizeLine; decide, fun p0 hp0 => ⟨by show 1 ≤ sizeLine; decide, fun r0 hr0 => ⟨_, _, rfl, ?_⟩⟩⟩
  have k0 : Kp H (upd H d0 (.lst [.int 0])) := Kp.new hd0
  have k1 : Kp (upd H d0 (.lst [.int 0])) (upd (upd H d0 (.lst [.int 0])) p0 (.tup [.int 0, .int 0])) := Kp.new hp0
  have k2 : Kp (upd (upd H d0 (.lst [.int 0])) p0 (.tup [.int 0, .int 0])) (upd (upd (upd H d0 (.lst [.int 0])) p0 (.tup [.int 0, .int 0])) r0 (.lst [.ref p0])) := Kp.new hr0
  refine ⟨_, rfl, (most : Int), rfl, by omega, by omega, ?_⟩
  rw [Int.toNat_natCast]
  refine for_range (lo := 0) (n := most) (fun i σ H' => Kp H H' ∧ ∃ d r vs o4 o5 o6 o7 o8, σ = [some (.ref a), some (nV most), some (.ref d), some (.ref r), o4, o5, o6, o7, o8] ∧ H' d = some (.lst ((writS x i).2.map nV)) ∧ H' r = some (.lst vs) ∧ Paired (PT H') vs (writS x i).1) ⟨(k0.trans k1).trans k2, d0, r0, [.ref p0], _, _, _, _, _, rfl, k2.lst (k1.lst upd_same), upd_same, .cons ⟨p0, rfl, k2.tup upd_same⟩ .nil⟩ ?_ ?_
  · rintro i σ H' hi ⟨kp, d, r, vs, o4, o5, o6, o7, o8, rfl, hd, hr0', its⟩
    obtain ⟨s2, s1⟩ := writ_small sz i
    obtain ⟨s2', s1'⟩ := writ_small sz (i + 1)
    have start := writ_start x i
    have st1 : (writS x (i + 1)).1 = (writS x i).1.flatMap (nextW x) := rfl
    have st2 : (writS x (i + 1)).2 = (writS x i).2 ++ ((writS x i).1.flatMap (nextW x)).map (·.2) := rfl
    rw [st1] at s1'
    generalize (writS x i).1 = rows at *
    generalize (writS x i).2 = fnd at *
    refine ⟨Nat.zero_le _, fun l hl => ?_⟩
    have kl : Kp H' (upd H' l (.lst [])) := Kp.new hl
    refine ⟨_, rfl, r, rfl, ⟨_, SqL.of (kl.lst hr0')⟩, for_list (K := K) (a := r) (xs := vs) (fun j σ H2 => AccI H' l PT ((rows.take j).flatMap (nextW x)) H2 ∧ ∃ o6 o7 o8, σ = [some (.ref a), some (nV most), some (.ref d), some (.ref r), some (.int (0 + (i : Int))), some (.ref l), o6, o7, o8]) ⟨AccI.zero hl, _, _, _, rfl⟩ (fun j σ H2 _ I => SqL.of (I.1.1.lst hr0')) ?_ ?_⟩
    · rintro j y σ H2 hy ⟨I, o6, o7, o8, rfl⟩
      obtain ⟨⟨s0, v0⟩, hp, it⟩ := Paired.at' its hy
      obtain ⟨b, rfl, eb⟩ := IT.kp it I.1
      have sle : s0 ≤ x.length := start _ (List.mem_of_getElem? hp)
      have e2 := (kp.trans I.1).tup e
      have whole : ((rows.take (j + 1)).flatMap (nextW x)) = (rows.take j).flatMap (nextW x) ++ nextW x (s0, v0) := by
        rw [take_more hp, List.flatMap_append]
        simp
      refine ⟨b, _, rfl, SqT.of eb, rfl, _, _, rfl, _, _, rfl, rfl, ?_⟩
      refine ⟨_, rfl, _, rfl, a, _, rfl, .inr (SqT.of e2), ?_⟩
      refine ⟨_, _, rfl, ⟨by omega, by show (s0 : Int) < _; omega, by omega, by rw [List.length_map]; omega⟩, ?_⟩
      have nn : (((x.map nV).length : Int) - (s0 : Int)).toNat = x.length - s0 := by rw [List.length_map]; omega
      show ∃ W, _
      rw [show (((x.map nV).length : Int) - ((s0, v0).fst : Int)).toNat = x.length - s0 from nn]
      have nl : (nextW x (s0, v0)).length = x.length - s0 := by unfold nextW; rw [List.length_map, List.length_range']
      refine for_range (lo := (s0 : Int)) (n := x.length - s0) (fun m σ H3 => AccI H' l PT ((rows.take j).flatMap (nextW x) ++ (nextW x (s0, v0)).take m) H3 ∧ ∃ o8, σ = [some (.ref a), some (nV most), some (.ref d), some (.ref r), some (.int (0 + (i : Int))), some (.ref l), some (nV s0), some (nV v0), o8]) ⟨by rw [List.take_zero, List.append_nil]; exact I, _, rfl⟩ ?_ ?_
      · rintro m σ H3 hm ⟨I3, o8, rfl⟩
        have hk : s0 + m < x.length := by omega
        have gx : x[s0 + m]? = some (x.getD (s0 + m) 0) := by rw [List.getD_eq_getElem?_getD, List.getElem?_eq_getElem hk]; rfl
        have gn : (nextW x (s0, v0))[m]? = some (s0 + m + 1, v0 ^^^ x.getD (s0 + m) 0) := by
          unfold nextW
          rw [List.getElem?_map, List.getElem?_range' (by exact hm)]
          simp
        refine ⟨_, rfl, .inl ⟨rfl, _, SqL.of I3.2.choose_spec.1⟩, ?_⟩
        refine ⟨_, rfl, _, _, rfl, rfl, ?_⟩
        refine ⟨_, rfl, _, rfl, _, rfl, a, _, _, _, rfl, rfl, SqT.of ((kp.trans I3.1).tup e), atI_nat (j := s0 + m) (by rw [List.getElem?_map, gx]; rfl), v0, _, rfl, rfl, ?_⟩
        refine ⟨by show 2 ≤ sizeLine; decide, fun q hq => ?_⟩
        obtain ⟨xs, hx, hz, I4⟩ := I3.push stab_pt hl (Kp.new (o := .tup [nV (s0 + m + 1), nV (v0 ^^^ x.getD (s0 + m) 0)]) hq) (y := .ref q) (b := (s0 + m + 1, v0 ^^^ x.getD (s0 + m) 0)) (m' := (rows.take j).flatMap (nextW x) ++ (nextW x (s0, v0)).take (m + 1)) ⟨q, rfl, upd_same⟩ (sl (by
          have h1 : ((rows.take j).flatMap (nextW x)).length ≤ 32 * 5 := by
            refine Nat.le_trans (flat_len _ 5 _ fun z hz => ?_) (Nat.mul_le_mul_right _ (by rw [List.length_take]; omega))
            unfold nextW
            rw [List.length_map, List.length_range']
            omega
          rw [List.length_append, List.length_take]
          omega)) (by rw [take_more gn, List.append_assoc])
        exact ⟨l, xs, .ref q, rfl, rfl, hx, hz, I4, _, rfl⟩
      · rintro σ H3 ⟨I3, o8, rfl⟩
        rw [← nl, List.take_length, ← whole] at I3
        exact ⟨I3, _, _, _, rfl⟩
    · rintro σ H2 ⟨I, o6, o7, o8, rfl⟩
      rw [its.length, List.take_length] at I
      obtain ⟨kI, ls, hls, pl⟩ := I
      generalize hlong : rows.flatMap (nextW x) = long at *
      refine ⟨_, rfl, _, rfl, _, rfl, l, rfl, ⟨_, SqL.of hls⟩, fun D hD => ?_⟩
      refine turns_list (xs := ls) (fun m H3 => AccI H2 D (fun _ v (n : Nat) => v = nV n) ((long.take m).map (·.2)) H3) (AccI.zero hD) (fun m H3 I => SqL.of (I.1.lst hls)) ?_ ?_
      · intro m y H3 hy I3
        obtain ⟨⟨s0, v0⟩, hp, it⟩ := Paired.at' pl hy
        obtain ⟨b, rfl, eb⟩ := IT.kp it I3.1
        refine ⟨b, _, rfl, SqT.of eb, rfl, _, _, rfl, _, _, rfl, rfl, ?_⟩
        refine ⟨rfl, yes2 ⟨_, rfl, ?_⟩⟩
        exact I3.push stab_nv hD (Kp.refl _) rfl (sl (by rw [List.length_map, List.length_take]; omega)) (by rw [take_more hp, List.map_append]; rfl)
      · rintro H3 ⟨k3, acc, hacc, p⟩
        rw [pl.length, List.take_length] at p
        obtain rfl := nv_vals p
        refine ⟨d, D, _, _, rfl, rfl, k3.lst (kI.lst hd), hacc, ?_, fun q hq => ?_⟩
        · rw [List.length_map, List.length_map, List.length_map, sizeLine_eq]
          omega
        · have kq : Kp H3 (upd H3 q (.lst (fnd.map nV ++ (long.map (·.2)).map nV))) := Kp.new hq
          refine ⟨((kp.trans kI).trans k3).trans kq, q, l, ls, _, _, _, _, _, rfl, ?_, (k3.trans kq).lst hls, ?_⟩
          · rw [st2, List.map_append]
            exact upd_same
          · rw [st1]
            exact Paired.mono (fun _ _ z => IT.tk z (k3.tk.trans kq.tk)) pl
  · rintro σ H' ⟨kp, d, r, vs, o4, o5, o6, o7, o8, rfl, hd, hr0', its⟩
    refine ⟨_, rfl, ?_⟩
    show rSetI K w [V.ref d] H' fun y H1 => rSortedSet w [y] H1 fun x_2 H1 => Q x_2 H1
    refine sort_setI hd (by have := (writ_small sz most).1; omega) fun H4 p k4 h0 h1 => ?_
    exact k _ _ (kp.trans k4) ⟨p, rfl, h1⟩
end
end MX
end

section
set_option Elab.async false
set_option linter.all false
set_option maxRecDepth 100000
set_option maxHeartbeats 4000000
namespace MX
open PySem PySem.Spec PyProof.Rows L2
/-! ### _law_made -/
def lawGrown (most : Nat) (ms : List Nat) : List (List Nat) := (lawWrit ms most).map fun m => inOrder (ms ++ [m])
def lawMade (left : List Nat) (many most : Nat) : List (List Nat) := iter (fun f => sortU (f.flatMap (lawGrown most))) many [left]
theorem writS_lt {t : Nat} {ms : List Nat} (h : ∀ m ∈ ms, m < 2 ^ t) : ∀ i, (∀ p ∈ (writS ms i).1, p.2 < 2 ^ t) ∧ ∀ x ∈ (writS ms i).2, x < 2 ^ t
  | 0 => by
    have : 0 < 2 ^ t := Nat.pow_pos (by decide)
    refine ⟨fun p hp => ?_, fun x hx => ?_⟩
    · rw [List.mem_singleton.mp hp]
      exact this
    · rw [List.mem_singleton.mp hx]
      exact this
  | i + 1 => by
    obtain ⟨h1, h2⟩ := writS_lt h i
    have h3 : ∀ p ∈ (writS ms (i + 1)).1, p.2 < 2 ^ t := by
      intro p hp
      obtain ⟨q, hq, hp⟩ := List.mem_flatMap.mp hp
      unfold nextW at hp
      obtain ⟨k, hk, rfl⟩ := List.mem_map.mp hp
      refine Nat.xor_lt_two_pow (h1 q hq) ?_
      rw [List.getD_eq_getElem?_getD]
      cases e : ms[k]? with
      | none => exact Nat.pow_pos (by decide)
      | some m => exact h m (List.mem_of_getElem? e)
    refine ⟨h3, fun x hx => ?_⟩
    rcases List.mem_append.mp hx with hx | hx
    · exact h2 x hx
    · obtain ⟨p, hp, rfl⟩ := List.mem_map.mp hx
      exact h3 p hp
theorem writ_fit {t : Nat} {ms : List Nat} (h : ∀ m ∈ ms, m < 2 ^ t) (most : Nat) : (lawWrit ms most).length ≤ 2 ^ t ∧ ∀ x ∈ lawWrit ms most, x < 2 ^ t := by
  have lt : ∀ x ∈ lawWrit ms most, x < 2 ^ t := fun x hx => (writS_lt h most).2 x (sortN_mem.mp hx)
  refine ⟨?_, lt⟩
  have := nodup_len _ (List.range (2 ^ t)) (sortN_nodup (writS ms most).2) fun x hx => List.mem_range.mpr (lt x hx)
  rw [List.length_range] at this
  exact this
theorem lawGrown_fit {t n most : Nat} {ms x : List Nat} (h : Fit t n ms) (hx : x ∈ lawGrown most ms) : Fit t (n + 1) x := by
  unfold lawGrown at hx
  obtain ⟨m, hm, rfl⟩ := List.mem_map.mp hx
  refine ⟨by rw [(inOrder_perm _).length_eq, List.length_append, h.1]; rfl, fun y hy => ?_⟩
  rcases List.mem_append.mp ((inOrder_perm _).mem_iff.mp hy) with h1 | h1
  · exact h.2 y h1
  · rw [List.mem_singleton.mp h1]
    exact (writ_fit h.2 most).2 m hm
theorem lawMade_fit {t n most : Nat} {left : List Nat} (h : Fit t n left) : ∀ i, (∀ x ∈ lawMade left i most, Fit t (n + i) x) ∧ (lawMade left i most).length ≤ (2 ^ t) ^ i
  | 0 => ⟨fun x hx => by rw [List.mem_singleton.mp hx]; exact h, by show 1 ≤ _; simp⟩
  | i + 1 => by
    obtain ⟨h1, h2⟩ := lawMade_fit (most := most) h i
    constructor
    · intro x hx
      change x ∈ sortU ((lawMade left i most).flatMap (lawGrown most)) at hx
      rw [sortU_mem] at hx
      obtain ⟨y, hy, hx⟩ := List.mem_flatMap.mp hx
      exact lawGrown_fit (h1 y hy) hx
    · show (sortU ((lawMade left i most).flatMap (lawGrown most))).length ≤ _
      refine Nat.le_trans (sortU_len _) ?_
      rw [Nat.pow_succ]
      refine Nat.le_trans (flat_len _ (2 ^ t) _ fun x hx => ?_) (Nat.mul_le_mul_right _ h2)
      unfold lawGrown
      rw [List.length_map]
      exact (writ_fit (h1 x hx).2 most).1
theorem in_list (there : List (List Nat)) (m : List Nat) : ((there.map tD).any fun z => PyData.eqv z (tD m)) = decide (m ∈ there) := by
  rw [List.any_map, Bool.eq_iff_iff, List.any_eq_true, decide_eq_true_eq]
  constructor
  · rintro ⟨z, hz, h⟩
    simp only [Function.comp, eqv_t, decide_eq_true_eq] at h
    exact h ▸ hz
  · intro h
    exact ⟨m, h, by simp [eqv_t]⟩
theorem shp_t (m : List Nat) : SeqAt.shaped (tD m) = true := by
  unfold SeqAt.shaped
  rw [Bool.and_eq_true, decide_eq_true_eq]
  exact ⟨lay_t m, by rw [depth_t]; decide⟩
def okM (there : List (List Nat)) (t most melts : Nat) (left : List Nat) : Bool := lawKeeps t left && !((lawMade left melts most).filter fun m => decide (m ∈ there)).isEmpty
def lawKept (t most melts : Nat) (there : List (List Nat)) (m : List Nat) : Bool := (lawLefts m melts).all (okM there t most melts)
/-- small enough for the law's own sets -/
structure Few (t n melts : Nat) : Prop where
  n5 : n ≤ 5
  m2 : melts ≤ 2
  mn : melts ≤ n
  few : t ≤ n - melts → (2 ^ t) ^ melts < 64
  t9 : t ≤ 9
section
variable {P : Program} {w : World} {K : PySem.W.Frag} {mg : Str → Option Value} {base : Heap} {f c : Addr} {fd : FuncData}
abbrev st_law_made : Stmt := topS 47
abbrev N_law_made : List Str := ["_law_left", "_law_many", "_law_most", "_law_found", "_law_turn", "_law_longer", "_law_masks", "_law_mask_here"]
theorem sc_law_made : FnScope N_law_made ["_law_left", "_law_many", "_law_most"] (defScope st_law_made) := ⟨rfl, rfl, rfl, by decide +kernel, rfl, by decide +kernel, by decide +kernel⟩
def sp_law_made : Sp := spQ 3 (fun vs H (x : Nat × List Nat × Nat × Nat) => ∃ v, vs = [v, nV x.2.2.1, nV x.2.2.2] ∧ IT H v x.2.1 ∧ Fit x.1 x.2.1.length x.2.1 ∧ x.2.1.length + x.2.2.1 ≤ 5 ∧ x.2.2.1 ≤ 2 ∧ x.2.2.2 ≤ 3 ∧ (2 ^ x.1) ^ x.2.2.1 < 64) fun x H0 v H => ∃ a vs, v = .ref a ∧ H0 a = none ∧ H a = some (.lst vs) ∧ ITs H vs (lawMade x.2.1 x.2.2.1 x.2.2.2)
theorem cal_law_made (F : FunC K mg "_law_made" st_law_made f fd c) (B : Bi mg) (C_law_writings : Cal P w K mg base 1 "_law_writings" ["_law_masks", "_law_most"] sp_law_writings) (C_law_sorted : Cal P w K mg base 4 "_law_sorted" ["_law_masks"] sp_in_order) : Cal P w K mg base 5 "_law_made" ["_law_left", "_law_many", "_law_most"] sp_law_made := by
  refine F.cal sc_law_made spQ_len (fun _ _ _ _ _ _ us hl => match us, hl with | [_, _, _], _ => rfl) (fun A outer s H vs Q hr h => ?_) spQ_E
  refine ⟨_, (pss_cons (ps_set (i := 3) sc_law_made.nd rfl (Or.inl rfl) (pe_lst (pa_cons (pe_callTy (call_tuple_ofK K) (by rfl) B.tuple boot_tuple (pa_cons (pv 0) pa_nil)) pa_nil)))
  (pss_cons (ps_for PassesOwn.never rfl (pi_range1 (by rfl) B.range (pa_cons (pv 1) pa_nil)) (pg_name (i := 4) sc_law_made.nd rfl (by first | exact Or.inl rfl | exact Or.inr rfl)) (pss_cons (ps_set (i := 5) sc_law_made.nd rfl (Or.inl rfl) (pe_lst pa_nil))
  (pss_cons (ps_for PassesOwn.never rfl (pi_listK K (hl := (pv 3))) (pg_name (i := 6) sc_law_made.nd rfl (by first | exact Or.inl rfl | exact Or.inr rfl)) (pss_one (ps_set (i := 5) sc_law_made.nd rfl (Or.inl rfl) (pe_op op_cat (pv 5) (pe_lc (own := [("_law_mask_here", 7)]) rfl sc_law_made.nd (pi_listK K (hl := (pe_cal C_law_writings hr (by decide) (by rfl) (pa_cons (pv 6) (pa_cons (pv 2) pa_nil))))) (blkOk_by (own := [("_law_mask_here", 7)]) (N := N_law_made) (sc := defScope st_law_made) (by decide +kernel)) (fun _ _ _ _ _ => (pg_name (i := 7) sc_law_made.nd rfl (by first | exact Or.inl rfl | exact Or.inr rfl))) (fun _ _ _ _ _ => pts_nil) (fun _ _ _ _ _ => (pe_cal C_law_sorted hr (by decide) (by rfl) (pa_cons (pe_op (op_catAK K) (pv 6) (pe_tup (pa_cons (pv 7) pa_nil))) pa_nil))))))))
  (pss_one (ps_set (i := 3) sc_law_made.nd rfl (Or.inl rfl) (pe_callB (cr_sortCK K (hc := (cl_setNK w rfl rfl)) (hu := un_of hr (by decide))) (by rfl) B.sorted boot_sorted (pa_cons (pe_callTy (cr_setNK K (w := w) (hw := rfl) (hc := rfl) (hu := un_of hr (by decide))) (by rfl) B.set boot_set (pa_cons (pv 5) pa_nil)) pa_nil)))))))
  (pss_one (ps_ret (pv 3))))), ?_⟩
  obtain ⟨_, ⟨t, x, many, most⟩, ⟨_, rfl, ⟨a, rfl, e⟩, fx, sz, mz, mo, few⟩, k⟩ := h
  dsimp only at e fx sz mz mo few
  have p2 : 0 < 2 ^ t := Nat.pow_pos (by decide)
  refine ⟨_, rfl, a, _, rfl, .inr ⟨SqT.of e, ?_⟩⟩
  refine ⟨by show 1 ≤ sizeLine; decide, fun d0 hd0 => ?_⟩
  have k0 : Kp H (upd H d0 (.lst [.ref a])) := Kp.new hd0
  refine ⟨_, rfl, (many : Int), rfl, by omega, by omega, ?_⟩
  rw [Int.toNat_natCast]
  refine for_range (lo := 0) (n := many) (fun i σ H' => Kp H H' ∧ ∃ d vs o4 o5 o6, σ = [some (.ref a), some (nV many), some (nV most), some (.ref d), o4, o5, o6, none] ∧ H d = none ∧ H' d = some (.lst vs) ∧ ITs H' vs (lawMade x i most)) ⟨k0, d0, _, _, _, _, rfl, hd0, upd_same, .cons ⟨a, rfl, k0.tup e⟩ .nil⟩ ?_ ?_
  · rintro i σ H' hi ⟨kp, d, vs, o4, o5, o6, rfl, hdn, hd, its⟩
    obtain ⟨fit, cnt⟩ := lawMade_fit (most := most) fx i
    have stepE : lawMade x (i + 1) most = sortU ((lawMade x i most).flatMap (lawGrown most)) := rfl
    have cnt1 : (2 ^ t) ^ i * 2 ^ t < 64 := by
      rw [← Nat.pow_succ]
      exact Nat.lt_of_le_of_lt (Nat.pow_le_pow_right p2 hi) few
    have b3 : 2 ^ t < 64 := by
      refine Nat.lt_of_le_of_lt ?_ cnt1
      exact Nat.le_mul_of_pos_left _ (Nat.pow_pos p2)
    have gl : ∀ y ∈ lawMade x i most, (lawGrown most y).length ≤ 2 ^ t := fun y hy => by
      unfold lawGrown
      rw [List.length_map]
      exact (writ_fit (fit y hy).2 most).1
    generalize lawMade x i most = Li at *
    refine ⟨Nat.zero_le _, fun l hl => ?_⟩
    have kl : Kp H' (upd H' l (.lst [])) := Kp.new hl
    refine ⟨_, rfl, d, rfl, ⟨_, SqL.of (kl.lst hd)⟩, for_list (K := K) (a := d) (xs := vs) (fun j σ H2 => Kp H' H2 ∧ ∃ l ls o6, σ = [some (.ref a), some (nV many), some (nV most), some (.ref d), some (.int (0 + (i : Int))), some (.ref l), o6, none] ∧ H2 l = some (.lst ls) ∧ ITs H2 ls ((Li.take j).flatMap (lawGrown most))) ⟨kl, l, [], _, rfl, upd_same, .nil⟩ (fun j σ H2 _ I => SqL.of (I.1.lst hd)) ?_ ?_⟩
    · rintro j y σ H2 hy ⟨k2, l, ls, o6, rfl, hl2, itl⟩
      obtain ⟨ms, hms, it0⟩ := Paired.at' its hy
      have it := it0.kp k2
      have mm := List.mem_of_getElem? hms
      have fm := fit ms mm
      refine ⟨_, rfl, _, rfl, _, rfl, rfl, (ms, most), ⟨y, rfl, it, by show ms.length ≤ 5; rw [fm.1]; omega, mo⟩, ?_⟩
      rintro _ H3 k3 ⟨r, rfl, hr3⟩
      dsimp only at hr3
      refine ⟨r, rfl, ⟨_, SqL.of hr3⟩, fun D hD => ?_⟩
      refine turns_list (xs := (lawWrit ms most).map nV) (fun m H4 => AccI H3 D IT ((lawGrown most ms).take m) H4) (AccI.zero hD) (fun m H4 I => SqL.of (I.1.lst hr3)) ?_ ?_
      · intro m z H4 hz I
        obtain ⟨q, hq, rfl⟩ := map_at hz
        have gm : (lawGrown most ms)[m]? = some (inOrder (ms ++ [q])) := by unfold lawGrown; rw [List.getElem?_map, hq]; rfl
        refine ⟨rfl, yes2 ⟨_, rfl, _, rfl, by show 1 ≤ sizeLine; decide, fun p hp => ?_⟩⟩
        refine cat_one (it.kp (k3.trans I.1)) (by rw [fm.1]; omega) hp fun u H5 k5 iu => ⟨rfl, ms ++ [q], ⟨u, rfl, .inl iu⟩, ?_⟩
        intro u2 H6 k6 iu2
        exact I.push stab_it hD (k5.trans k6) iu2 (sl (Nat.le_trans (by rw [List.length_take]; exact Nat.min_le_right _ _) (Nat.le_trans (gl ms mm) (by omega)))) (take_more gm)
      · rintro H4 ⟨k4, acc, hacc, p⟩
        rw [show ((lawWrit ms most).map nV).length = (lawGrown most ms).length by unfold lawGrown; rw [List.length_map, List.length_map], List.take_length] at p
        have bound : ((Li.take j).flatMap (lawGrown most)).length ≤ Li.length * 2 ^ t := by
          refine Nat.le_trans (flat_len _ (2 ^ t) _ fun z hz => gl z (List.mem_of_mem_take hz)) (Nat.mul_le_mul_right _ (by rw [List.length_take]; omega))
        have b2 : Li.length * 2 ^ t < 64 := Nat.lt_of_le_of_lt (Nat.mul_le_mul_right _ cnt) cnt1
        have g1 := gl ms mm
        have kk := k3.trans k4
        refine ⟨l, D, ls, acc, rfl, rfl, kk.lst hl2, hacc, ?_, fun q hq => ?_⟩
        · rw [itl.length, p.length, sizeLine_eq]
          omega
        · have kq : Kp H4 (upd H4 q (.lst (ls ++ acc))) := Kp.new hq
          refine ⟨(k2.trans kk).trans kq, q, ls ++ acc, _, rfl, upd_same, ?_⟩
          rw [take_more hms, List.flatMap_append]
          have : ([ms].flatMap (lawGrown most)) = lawGrown most ms := by simp
          rw [this]
          exact Paired.app (ITs.tk itl (kk.tk.trans kq.tk)) (ITs.tk p kq.tk)
    · rintro σ H2 ⟨k2, l, ls, o6, rfl, hl2, itl⟩
      rw [its.length, List.take_length] at itl
      have bound : (Li.flatMap (lawGrown most)).length < 64 := Nat.lt_of_le_of_lt (Nat.le_trans (flat_len _ (2 ^ t) _ gl) (Nat.mul_le_mul_right _ cnt)) cnt1
      refine ⟨_, rfl, ?_⟩
      show rSetN K w [V.ref l] H2 fun y H1 => rSortC K (cSetN w) [y] H1 fun x_2 H1 => gName 3 x_2 _ H1 _
      refine sort_set_its hl2 itl bound fun H4 pp ws k4 h0 h1 h2 => ?_
      refine ⟨(kp.trans k2).trans k4, pp, ws, _, _, _, rfl, (kp.trans k2).free h0, h1, ?_⟩
      rw [stepE]
      exact h2
  · rintro σ H' ⟨kp, d, vs, o4, o5, o6, rfl, hdn, hd, its⟩
    exact ⟨_, rfl, k _ _ kp ⟨d, vs, rfl, hdn, hd, its⟩⟩
abbrev st_law_is_kept : Stmt := topS 56
abbrev N_law_is_kept : List Str := ["_law_texts", "_law_masks", "_law_there", "_law_most", "_law_melts", "_law_left", "_law_one"]
theorem sc_law_is_kept : FnScope N_law_is_kept ["_law_texts", "_law_masks", "_law_there", "_law_most", "_law_melts"] (defScope st_law_is_kept) := ⟨rfl, rfl, rfl, by decide +kernel, rfl, by decide +kernel, by decide +kernel⟩
theorem lefts_fit {t n k : Nat} {ms : List Nat} (h : Fit t (n + k) ms) : ∀ i, i ≤ k → ∀ x ∈ lawLefts ms i, Fit t (n + (k - i)) x
  | 0, _ => by
    intro x hx
    rw [List.mem_singleton.mp hx]
    exact h
  | i + 1, hi => by
    intro x hx
    change x ∈ sortU (((lawLefts ms i).flatMap cuts).map inOrder) at hx
    rw [sortU_mem] at hx
    obtain ⟨y, hy, rfl⟩ := List.mem_map.mp hx
    obtain ⟨z, hz, hy⟩ := List.mem_flatMap.mp hy
    have q := lefts_fit h i (by omega) z hz
    rw [show n + (k - i) = n + (k - (i + 1)) + 1 by omega] at q
    exact order_fit (cuts_fit q hy)
theorem lefts_fit' {t n melts : Nat} {ms : List Nat} (h : Fit t n ms) (hm : melts ≤ n) : ∀ x ∈ lawLefts ms melts, Fit t (n - melts) x := by
  have := lefts_fit (t := t) (n := n - melts) (k := melts) (ms := ms) (by rw [Nat.sub_add_cancel hm]; exact h) melts (Nat.le_refl _)
  rw [Nat.sub_self] at this
  exact this
theorem keeps_room {t : Nat} {x : List Nat} (h : lawKeeps t x = true) : t ≤ x.length := by
  unfold lawKeeps at h
  have h := of_decide_eq_true h
  have h1 := sortN_len (spansF x)
  have h2 := spans_len x [0]
  rw [List.length_singleton, Nat.one_mul] at h2
  have h3 : (spansF x).length ≤ 2 ^ x.length := h2
  rw [Nat.shiftLeft_eq, Nat.one_mul] at h
  have h4 : 2 ^ t ≤ 2 ^ x.length := by omega
  exact (Nat.pow_le_pow_iff_right (by decide)).mp h4
def sp_law_is_kept : Sp := spR 5 (fun vs H (x : (Nat × Nat × Nat) × List Nat × List (List Nat)) => ∃ u v, vs = [nV x.1.1, u, v, nV x.1.2.1, nV x.1.2.2] ∧ IT H u x.2.1 ∧ LT H v x.2.2 ∧ Fit x.1.1 x.2.1.length x.2.1 ∧ Few x.1.1 x.2.1.length x.1.2.2 ∧ x.1.2.1 ≤ 3) fun x v _ => v = .bl (lawKept x.1.1 x.1.2.1 x.1.2.2 x.2.2 x.2.1)
theorem cal_law_is_kept (F : FunC K mg "_law_is_kept" st_law_is_kept f fd c) (B : Bi mg) (C_law_lefts : Cal P w K mg base 5 "_law_lefts" ["_law_masks", "_law_many"] sp_law_lefts) (C_law_keeps : Cal P w K mg base 2 "_law_keeps" ["_law_texts", "_law_masks"] sp_law_keeps) (C_law_made : Cal P w K mg base 5 "_law_made" ["_law_left", "_law_many", "_law_most"] sp_law_made) : Cal P w K mg base 6 "_law_is_kept" ["_law_texts", "_law_masks", "_law_there", "_law_most", "_law_melts"] sp_law_is_kept := by
  refine F.cal sc_law_is_kept spR_len (fun _ _ _ _ _ _ us hl => match us, hl with | [_, _, _, _, _], _ => rfl) (fun A outer s H vs Q hr h => ?_) spR_E
  refine ⟨_, (pss_cons (ps_for PassesOwn.never rfl (pi_listK K (hl := (pe_cal C_law_lefts hr (by decide) (by rfl) (pa_cons (pv 1) (pa_cons (pv 4) pa_nil))))) (pg_name (i := 5) sc_law_is_kept.nd rfl (by first | exact Or.inl rfl | exact Or.inr rfl)) (pss_one (ps_if (PW.pt (pw_or (pt_not (pt_val (pe_cal C_law_keeps hr (by decide) (by rfl) (pa_cons (pv 0) (pa_cons (pv 5) pa_nil))))) (pw_or1 (pt_cmpR (op_eqDK K (hu := hr.units)) (pe_lc (own := [("_law_one", 6)]) rfl sc_law_is_kept.nd (pi_listK K (hl := (pe_cal C_law_made hr (by decide) (by rfl) (pa_cons (pv 5) (pa_cons (pv 4) (pa_cons (pv 3) pa_nil)))))) (blkOk_by (own := [("_law_one", 6)]) (N := N_law_is_kept) (sc := defScope st_law_is_kept) (by decide +kernel)) (fun _ _ _ _ _ => (pg_name (i := 6) sc_law_is_kept.nd rfl (by first | exact Or.inl rfl | exact Or.inr rfl))) (fun _ _ _ _ _ => (pts_one (pt_cmpR (op_inDK K (hu := un_of hr (by decide))) (pv 6) (pv 2) (by rfl)))) (fun _ _ _ _ _ => (pv 6))) (pe_lst pa_nil) (nomark _))))) (pss_one (ps_ret pe_bl)) pss_nil)))
  (pss_one (ps_ret pe_bl))), ?_⟩
  obtain ⟨_, ⟨⟨t, most, melts⟩, x, there⟩, ⟨u, v, rfl, it, ⟨th, tvs, rfl, eth, itth⟩, fx, ⟨n5, m2, mn, few, t9⟩, mo⟩, k⟩ := h
  dsimp only at it eth itth fx n5 m2 mn few t9 mo
  refine ⟨_, rfl, _, rfl, rfl, (x, melts), ⟨u, rfl, it, n5, m2⟩, ?_⟩
  rintro _ H1 k1 ⟨r, vs, rfl, er, its⟩
  dsimp only at its
  have lf := lefts_fit' fx mn
  refine ⟨r, rfl, ⟨_, SqL.of er⟩, for_list (K := K) (a := r) (xs := vs) (fun i σ H' => Kp H1 H' ∧ (∃ o5, σ = [some (nV t), some u, some (.ref th), some (nV most), some (nV melts), o5, none]) ∧ ((lawLefts x melts).take i).all (okM there t most melts) = true) ⟨Kp.refl _, ⟨_, rfl⟩, rfl⟩ (fun i σ H' _ I => SqL.of (I.1.lst er)) ?_ ?_⟩
  · rintro i y σ H' hy ⟨kp, ⟨o5, rfl⟩, ok⟩
    obtain ⟨left, hleft, itl⟩ := Paired.at' its hy
    have fl := lf left (List.mem_of_getElem? hleft)
    have itl := itl.kp kp
    have ta : ((lawLefts x melts).take (i + 1)).all (okM there t most melts) = okM there t most melts left := by
      rw [take_more hleft, List.all_append, ok, Bool.true_and]
      simp
    have fin : ∀ H2, Kp H' H2 → okM there t most melts left = false → Q (.bl false) H2 := fun H2 k2 hb => by
      refine k _ _ ((k1.trans kp).trans k2) ?_
      dsimp only
      congr 1
      exact (List.all_eq_false.mpr ⟨left, List.mem_of_getElem? hleft, by rw [hb]; decide⟩).symm
    refine ⟨_, rfl, _, rfl, rfl, (t, left), ⟨y, rfl, itl, by show left.length ≤ 5; rw [fl.1]; omega, t9⟩, ?_⟩
    rintro _ H3 k3 rfl
    refine ⟨_, rfl, ?_⟩
    dsimp only
    cases hb : lawKeeps t left with
    | false => exact ifT rfl (ifT rfl (fin H3 k3 (by unfold okM; rw [hb]; rfl)))
    | true =>
      refine ifF rfl ?_
      have room := keeps_room hb
      rw [fl.1] at room
      refine ⟨_, rfl, _, rfl, _, rfl, rfl, (t, left, melts, most), ⟨y, rfl, itl.kp k3, by show Fit t left.length left; rw [fl.1]; exact fl, by show left.length + melts ≤ 5; rw [fl.1]; omega, m2, mo, few room⟩, ?_⟩
      rintro _ H4 k4 ⟨q, ws, rfl, hq0, hq, itq⟩
      dsimp only at itq
      have l1 : (lawMade left melts most).length ≤ 64 := by
        have := (lawMade_fit (most := most) fl melts).2
        have := few room
        omega
      have k34 := k3.trans k4
      refine ⟨q, rfl, ⟨_, SqL.of hq⟩, fun D hD => ?_⟩
      refine turns_list (xs := ws) (fun j H2 => AccI H4 D IT (((lawMade left melts most).take j).filter fun m => decide (m ∈ there)) H2) (AccI.zero hD) (fun j H2 I => SqL.of (I.1.lst hq)) ?_ ?_
      · intro j z H2 hz I
        obtain ⟨m, hm, itm⟩ := Paired.at' itq hz
        have itm := itm.kp I.1
        have kth := ((k1.trans kp).trans k34).trans I.1
        refine ⟨rfl, _, rfl, _, rfl, tD m, there.map tD, itm.dp, .lst (SqL.of (kth.lst eth)) (ITs.dp (itth.tk kth.tk)), shp_t m, shp_ts there, ?_⟩
        rw [in_list]
        refine ⟨_, rfl, ite_b (fun hb => ⟨_, rfl, ?_⟩) fun hb => ?_⟩
        · exact I.push stab_it hD (Kp.refl _) itm (sl (Nat.le_trans (List.length_filter_le _ _) (Nat.le_trans (by rw [List.length_take]; exact Nat.min_le_right _ _) (by omega)))) (by rw [take_more hm]; exact fil_yes hb)
        · exact I.keep stab_it (Kp.refl _) (by rw [take_more hm]; exact fil_no hb)
      · rintro H2 ⟨k2, acc, hacc, p⟩
        rw [itq.length, List.take_length] at p
        refine ⟨Nat.zero_le _, fun e he => ?_⟩
        refine eq_nil (a := D) (b := e) (by rw [upd_ne (ne_of_none hacc he)]; exact hacc) (ITs.tk p (Tk.new he)) upd_same ?_
        have k5 := k34.trans (k2.trans (Kp.new (o := .lst []) he))
        refine ⟨_, rfl, ite_b (fun hb2 => fin _ k5 (by unfold okM; rw [hb, hb2]; rfl)) fun hb2 => ⟨kp.trans k5, ⟨_, rfl⟩, by rw [ta]; unfold okM; rw [hb, hb2]; rfl⟩⟩
  · rintro σ H' ⟨kp, ⟨o5, rfl⟩, ok⟩
    rw [its.length, List.take_length] at ok
    exact k _ _ (k1.trans kp) (by dsimp only; unfold lawKept; rw [ok])
end
end MX
end

section
set_option Elab.async false
set_option linter.all false
set_option maxRecDepth 100000
set_option maxHeartbeats 4000000
namespace MX
open PySem PySem.Spec PyProof.Rows L2
/-! ### _law_within -/
def lawAns (t most melts : Nat) (m : List Nat) : List (List (List Nat)) := (lawLefts m melts).map fun left => if lawKeeps t left then lawMade left melts most else []
def AnsM (H : Hp) (v : V) (os : List (List (List Nat))) : Prop := ∃ a vs, v = .ref a ∧ H a = some (.lst vs) ∧ Paired (LT H) vs os
theorem AnsM.kp {H H' : Hp} {v : V} {os : List (List (List Nat))} (h : AnsM H v os) (k : Kp H H') : AnsM H' v os := by
  obtain ⟨a, vs, e, q, p⟩ := h
  exact ⟨a, vs, e, k.lst q, Paired.mono (fun _ _ q => LT.kp q k) p⟩
theorem ltv_off {H : Hp} {D : Addr} {v : V} {l : List (List Nat)} (h : LT H v l) (n1 : ∀ xs, H D ≠ some (.lst xs)) (n2 : ∀ xs, H D ≠ some (.tup xs)) : LT (off D H) v l := by
  obtain ⟨b, ws, rfl, e, q⟩ := h
  refine ⟨b, ws, rfl, ?_, its_off q n2⟩
  rw [off_ne]
  · exact e
  · rintro rfl
    exact n1 _ e
theorem kst_lt : ∀ H H' v b, Kp H H' → LT H v b → LT H' v b := fun _ _ _ _ k h => LT.kp h k
inductive LawLost (t most melts : Nat) : List Nat → Prop where
  | base {m : List Nat} : lawKeeps t m = false → LawLost t most melts m
  | step {m : List Nat} {l : List (List Nat)} : l ∈ lawAns t most melts m → (∀ x ∈ l, LawLost t most melts x) → LawLost t most melts m
def beatM (F : List (List Nat)) (os : List (List (List Nat))) : Bool := os.any fun l => (l.filter fun m => !decide (m ∈ F)).isEmpty
theorem beatM_iff {F : List (List Nat)} {os : List (List (List Nat))} : beatM F os = true ↔ ∃ l ∈ os, ∀ x ∈ l, x ∈ F := by
  unfold beatM
  rw [List.any_eq_true]
  constructor
  · rintro ⟨l, hl, h⟩
    refine ⟨l, hl, fun x hx => ?_⟩
    have h := List.filter_eq_nil_iff.mp (List.isEmpty_iff.mp h) x hx
    simpa using h
  · rintro ⟨l, hl, q⟩
    refine ⟨l, hl, List.isEmpty_iff.mpr (List.filter_eq_nil_iff.mpr fun x hx => ?_)⟩
    simpa using q x hx
/-- half way: L still to be looked at -/
structure HalfL (t most melts n : Nat) (first : List Nat) (keys L : List (List Nat)) : Prop where
  nd : keys.Nodup
  fit : ∀ m, m ∈ keys ∨ m ∈ L → Fit t n m
  fst : first ∈ keys ∨ first ∈ L
  closed : ∀ m ∈ keys, ∀ l ∈ lawAns t most melts m, ∀ x ∈ l, x ∈ keys ∨ x ∈ L
theorem lawAns_fit {t n most melts : Nat} {m : List Nat} (hm : melts ≤ n) (h : Fit t n m) : ∀ l ∈ lawAns t most melts m, ∀ x ∈ l, Fit t n x := by
  intro l hl x hx
  unfold lawAns at hl
  obtain ⟨left, h1, rfl⟩ := List.mem_map.mp hl
  have fl := lefts_fit' h hm left h1
  split at hx
  · have := (lawMade_fit (most := most) fl melts).1 x hx
    rw [Nat.sub_add_cancel hm] at this
    exact this
  · cases hx
theorem lawAns_len {t n most melts : Nat} {m : List Nat} (fw : Few t n melts) (h : Fit t n m) : (lawAns t most melts m).length ≤ 20 ∧ ∀ l ∈ lawAns t most melts m, l.length ≤ 64 := by
  constructor
  · unfold lawAns
    rw [List.length_map]
    exact (lefts_cnt (by rw [h.1]; exact fw.n5) melts fw.m2).2
  · intro l hl
    unfold lawAns at hl
    obtain ⟨left, h1, rfl⟩ := List.mem_map.mp hl
    have fl := lefts_fit' h fw.mn left h1
    split
    · rename_i hk
      have := (lawMade_fit (most := most) fl melts).2
      have room := keeps_room hk
      rw [fl.1] at room
      have := fw.few room
      omega
    · exact Nat.zero_le _
/-- the first of those that wait is known, or new -/
theorem HalfL.skip {t most melts n : Nat} {first m : List Nat} {keys L : List (List Nat)} (h : HalfL t most melts n first keys (m :: L)) (hm : m ∈ keys) : HalfL t most melts n first keys L where
  nd := h.nd
  fit := fun x q => h.fit x (q.imp id fun q => by simp [q])
  fst := by
    rcases h.fst with q | q
    · exact .inl q
    · rcases List.mem_cons.mp q with q | q
      · exact .inl (q ▸ hm)
      · exact .inr q
  closed := fun k hk l hl x hx => by
    rcases h.closed k hk l hl x hx with q | q
    · exact .inl q
    · rcases List.mem_cons.mp q with q | q
      · exact .inl (q ▸ hm)
      · exact .inr q
theorem HalfL.take {t most melts n : Nat} {first m : List Nat} {keys L N : List (List Nat)} (hn : melts ≤ n) (h : HalfL t most melts n first keys (m :: L)) (hk : m ∉ keys) (n1 : ∀ x ∈ N, ∃ l ∈ lawAns t most melts m, x ∈ l) (n2 : ∀ l ∈ lawAns t most melts m, ∀ x ∈ l, x ∈ keys ++ [m] ∨ x ∈ N) : HalfL t most melts n first (keys ++ [m]) (L ++ N) where
  nd := by
    rw [List.nodup_append]
    exact ⟨h.nd, by simp, fun a ha b hb => by
      rw [List.mem_singleton.mp hb]
      rintro rfl
      exact hk ha⟩
  fit := fun x q => by
    have fm := h.fit m (.inr (by simp))
    rcases q with q | q
    · rcases List.mem_append.mp q with q | q
      · exact h.fit x (.inl q)
      · rw [List.mem_singleton.mp q]
        exact fm
    · rcases List.mem_append.mp q with q | q
      · exact h.fit x (.inr (by simp [q]))
      · obtain ⟨l, hl, hx⟩ := n1 x q
        exact lawAns_fit hn fm l hl x hx
  fst := by
    rcases h.fst with q | q
    · exact .inl (by simp [q])
    · rcases List.mem_cons.mp q with q | q
      · exact .inl (by simp [q])
      · exact .inr (by simp [q])
  closed := fun k hk l hl x hx => by
    rcases List.mem_append.mp hk with hk | hk
    · rcases h.closed k hk l hl x hx with q | q
      · exact .inl (by simp [q])
      · rcases List.mem_cons.mp q with q | q
        · exact .inl (by simp [q])
        · exact .inr (by simp [q])
    · rw [List.mem_singleton.mp hk] at hl
      rcases n2 l hl x hx with q | q
      · exact .inl q
      · exact .inr (by simp [q])
structure RecL (t most melts : Nat) (keys F : List (List Nat)) : Prop where
  nd : F.Nodup
  sub : ∀ m ∈ F, m ∈ keys
  base : ∀ m ∈ keys, lawKeeps t m = false → m ∈ F
  sound : ∀ m ∈ F, LawLost t most melts m
def nextL (t most melts : Nat) (F : List (List Nat)) (m : List Nat) : Bool := !decide (m ∈ F) && beatM F (lawAns t most melts m)
theorem RecL.step {t most melts : Nat} {keys F : List (List Nat)} (R : RecL t most melts keys F) : RecL t most melts keys ((keys.filter (nextL t most melts F)).foldl putN F) where
  nd := putNs_nodup _ R.nd
  sub := fun m hm => by
    rcases (putNs_mem _).mp hm with h | h
    · exact R.sub m h
    · exact (List.mem_filter.mp h).1
  base := fun m hm h => (putNs_mem _).mpr (.inl (R.base m hm h))
  sound := fun m hm => by
    rcases (putNs_mem _).mp hm with h | h
    · exact R.sound m h
    · have h2 := (List.mem_filter.mp h).2
      unfold nextL at h2
      rw [Bool.and_eq_true] at h2
      obtain ⟨l, hl, q⟩ := beatM_iff.mp h2.2
      exact .step hl fun x hx => R.sound x (q x hx)
theorem RecL.more {t most melts : Nat} {keys F : List (List Nat)} (R : RecL t most melts keys F) (h : keys.filter (nextL t most melts F) ≠ []) : F.length < ((keys.filter (nextL t most melts F)).foldl putN F).length := by
  obtain ⟨m, hm⟩ := List.exists_mem_of_ne_nil _ h
  have h2 := (List.mem_filter.mp hm).2
  unfold nextL at h2
  rw [Bool.and_eq_true] at h2
  have hn : m ∉ F := by simpa using h2.1
  have := nodup_len (m :: F) ((keys.filter (nextL t most melts F)).foldl putN F) (List.nodup_cons.mpr ⟨hn, R.nd⟩) fun x hx => (putNs_mem _).mpr (by
    rcases List.mem_cons.mp hx with e | h
    · subst e
      exact .inr hm
    · exact .inl h)
  rw [List.length_cons] at this
  omega
theorem lost_iff {t most melts : Nat} {keys F : List (List Nat)} (R : RecL t most melts keys F) (cl : ∀ m ∈ keys, ∀ l ∈ lawAns t most melts m, ∀ x ∈ l, x ∈ keys) (dn : keys.filter (nextL t most melts F) = []) {m : List Nat} (hm : m ∈ keys) : m ∈ F ↔ LawLost t most melts m := by
  refine ⟨R.sound m, fun h => ?_⟩
  induction h with
  | base h => exact R.base _ hm h
  | @step m l h q ih =>
    refine Classical.byContradiction fun hf => ?_
    have h2 := List.filter_eq_nil_iff.mp dn m hm
    unfold nextL at h2
    rw [decide_eq_false hf, beatM_iff.mpr ⟨l, h, fun x hx => ih x hx (cl m hm l h x hx)⟩] at h2
    exact h2 rfl
end MX
end

section
set_option Elab.async false
set_option linter.all false
set_option maxRecDepth 100000
set_option maxHeartbeats 4000000
namespace MX
open PySem PySem.Spec PyProof.Rows L2
def wiIn (st : Stmt) : Scope := match defBody st with
  | [_, _, _, _, .While _ [_, .For _ _ [.If (.BoolOp _ [_, .Compare (.ListComp _ _ sc _) _ _ _] _) _ _ _] _ _, _, _] _ _, _] => sc
  | _ => default
theorem cut1 (y : V) (ys : List V) : cutV (y :: ys) (some 1) none = ys := by
  show cutV (y :: ys) (some ((1 : Nat) : Int)) none = ys
  unfold cutV
  rw [HT.sIx_none, HT.sIx_nat]
  simp
theorem upd_comm {H : Hp} {a b : Addr} {x y : HO} (h : a ≠ b) : upd (upd H a x) b y = upd (upd H b y) a x := by
  funext z
  by_cases h1 : z = a
  · subst h1
    rw [upd_ne h, upd_same, upd_same]
  · by_cases h2 : z = b
    · subst h2
      rw [upd_same, upd_ne h1, upd_same]
    · rw [upd_ne h2, upd_ne h1, upd_ne h1, upd_ne h2]
def PairV (H : Hp) (v : V) (m : List Nat) : Prop := ∃ p b, v = .ref p ∧ H p = some (.tup [.ref b, .int 0]) ∧ H b = some (.tup (m.map nV))
theorem pairs_split {H : Hp} : ∀ {acc : List V} {F : List (List Nat)}, Paired (PairV H) acc F → ∃ ps ks : List Addr, acc = ps.map V.ref ∧ ps.length = F.length ∧ ks.length = F.length ∧ ∀ (i : Nat) (p b : Addr) (m : List Nat), ps[i]? = some p → ks[i]? = some b → F[i]? = some m → H p = some (.tup [.ref b, .int 0]) ∧ H b = some (.tup (m.map nV))
  | _, _, .nil => ⟨[], [], rfl, rfl, rfl, fun i p b m h => by simp at h⟩
  | _, _, .cons ⟨p, b, e, e1, e2⟩ t => by
    obtain ⟨ps, ks, q1, q2, q3, q4⟩ := pairs_split t
    refine ⟨p :: ps, b :: ks, by rw [q1, e]; rfl, by rw [List.length_cons, List.length_cons, q2], by rw [List.length_cons, List.length_cons, q3], fun i p' b' m' h1 h2 h3 => ?_⟩
    cases i with
    | zero =>
      simp at h1 h2 h3
      subst h1 h2 h3
      exact ⟨e1, e2⟩
    | succ i => exact q4 i p' b' m' (by simpa using h1) (by simpa using h2) (by simpa using h3)
theorem put_vals {kvs : List (List Nat × V)} {k : List Nat} {d : Int} (h : ∀ p ∈ kvs, ∃ i, p.2 = V.int i) : ∀ p ∈ putK kvs k (.int d), ∃ i, p.2 = V.int i := by
  intro p hp
  unfold putK at hp
  split at hp
  · obtain ⟨q, hq, e⟩ := List.mem_map.mp hp
    split at e
    · exact ⟨d, by rw [← e]⟩
    · exact e ▸ h q hq
  · rcases List.mem_append.mp hp with hp | hp
    · exact h p hp
    · exact ⟨d, by rw [List.mem_singleton.mp hp]⟩
theorem val_of_mem {kvs : List (List Nat × V)} {k : List Nat} {v : V} (h : valV kvs k = some v) : ∃ p ∈ kvs, p.2 = v := by
  unfold valV at h
  obtain ⟨p, hp, e⟩ := Option.map_eq_some_iff.mp h
  exact ⟨p, List.mem_of_find?_eq_some hp, e⟩
def lD (l : List (List Nat)) : PyData := .list (l.map tD)
theorem LT.dp {K : PySem.W.Frag} {H : Hp} {v : V} {l : List (List Nat)} (h : LT H v l) : Dp K H v (lD l) := by
  obtain ⟨a, vs, rfl, e, its⟩ := h
  exact .lst (SqL.of e) its.dp
theorem lay_l (l : List (List Nat)) : (lD l).canLay0 = true := by
  unfold lD PyData.canLay0
  exact lay_all tD lay_t l
theorem dep_l (l : List (List Nat)) : (lD l).depth ≤ 2 := by
  unfold lD PyData.depth
  have := dep_all tD 1 (fun x => by rw [depth_t]; exact Nat.le_refl _) l
  omega
theorem shp_ls (l : List (List (List Nat))) : SeqAt.shaped (.list (l.map lD)) = true := by
  unfold SeqAt.shaped
  rw [Bool.and_eq_true, decide_eq_true_eq]
  refine ⟨?_, ?_⟩
  · unfold PyData.canLay0
    exact lay_all lD lay_l l
  · unfold PyData.depth
    have := dep_all lD 2 dep_l l
    omega
theorem ne_nil2 {K : PySem.W.Frag} {H : Hp} {a b : Addr} {vs : List V} {l : List (List (List Nat))} {Q : VK} (e : H a = some (.lst vs)) (its : Paired (LT H) vs l) (eb : H b = some (.lst [])) (q : Q (.bl (!l.isEmpty)) H) : rNeD K (.ref a) (.ref b) H Q := by
  have dp : ∀ {vs : List V} {l : List (List (List Nat))}, Paired (LT H) vs l → DpAll K H vs (l.map lD) := by
    intro vs l h
    induction h with
    | nil => exact .nil
    | cons h _ ih => exact .cons (LT.dp h) ih
  have e2 : PyData.eqv (.list (l.map lD)) (.list []) = l.isEmpty := by
    cases l <;> rfl
  exact ⟨_, _, .lst (SqL.of e) (dp its), .lst (SqL.of eb) .nil, shp_ls l, by decide +kernel, by rw [e2]; exact q⟩
/-- what is new of all that is answered -/
def newL (keys : List (List Nat)) (os : List (List (List Nat))) : List (List Nat) := os.flatMap fun l => l.filter fun m => !decide (m ∈ keys)
theorem newL_len {keys : List (List Nat)} {os : List (List (List Nat))} (h1 : os.length ≤ 20) (h : ∀ l ∈ os, l.length ≤ 64) : (newL keys os).length ≤ 1280 := by
  refine Nat.le_trans (flat_len _ 64 os fun l hl => Nat.le_trans (List.length_filter_le _ _) (h l hl)) ?_
  omega
section
variable {P : Program} {w : World} {K : PySem.W.Frag} {mg : Str → Option Value} {base : Heap} {f c : Addr} {fd : FuncData}
abbrev st_law_within : Stmt := topS 53
abbrev N_law_within : List Str := ["_law_texts", "_law_first", "_law_most", "_law_melts", "_law_ways", "_law_row", "_law_masks", "_law_made_here", "_law_lost", "_law_days", "_law_grown", "_law_fresh", "_law_left", "_law_one"]
theorem sc_law_within : FnScope N_law_within ["_law_texts", "_law_first", "_law_most", "_law_melts"] (defScope st_law_within) := ⟨rfl, rfl, rfl, by decide +kernel, rfl, by decide +kernel, by decide +kernel⟩
def sp_law_within : Sp := spR 4 (fun vs H (x : Nat × List Nat × Nat × Nat) => ∃ u, vs = [nV x.1, u, nV x.2.2.1, nV x.2.2.2] ∧ IT H u x.2.1 ∧ Fit x.1 x.2.1.length x.2.1 ∧ Few x.1 x.2.1.length x.2.2.2 ∧ x.2.2.1 ≤ 3 ∧ (2 ^ x.1) ^ x.2.1.length ≤ 4096) fun x v _ => (v = .non ∧ ¬ LawLost x.1 x.2.2.1 x.2.2.2 (inOrder x.2.1)) ∨ ((∃ i, v = .int i) ∧ LawLost x.1 x.2.2.1 x.2.2.2 (inOrder x.2.1))
theorem cal_law_within (F : FunC K mg "_law_within" st_law_within f fd c) (B : Bi mg) (C_law_sorted : Cal P w K mg base 4 "_law_sorted" ["_law_masks"] sp_in_order) (C_law_lefts : Cal P w K mg base 5 "_law_lefts" ["_law_masks", "_law_many"] sp_law_lefts) (C_law_keeps : Cal P w K mg base 2 "_law_keeps" ["_law_texts", "_law_masks"] sp_law_keeps) (C_law_made : Cal P w K mg base 5 "_law_made" ["_law_left", "_law_many", "_law_most"] sp_law_made) : Cal P w K mg base 6 "_law_within" ["_law_texts", "_law_first", "_law_most", "_law_melts"] sp_law_within := by
  refine F.cal sc_law_within spR_len (fun _ _ _ _ _ _ us hl => match us, hl with | [_, _, _, _], _ => rfl) (fun A outer s H vs Q hr h => ?_) spR_E
  refine ⟨_, (pss_cons (ps_asg (pe_tup (pa_cons pe_dnewT (pa_cons (pe_lst (pa_cons (pe_cal C_law_sorted hr (by decide) (by rfl) (pa_cons (pv 1) pa_nil)) pa_nil)) pa_nil))) (pg_tupK K (n := 2) (hc := rfl) (h := (pgs_cons (pg_name (i := 4) sc_law_within.nd rfl (by first | exact Or.inl rfl | exact Or.inr rfl)) (pgs_cons (pg_name (i := 5) sc_law_within.nd rfl (by first | exact Or.inl rfl | exact Or.inr rfl)) pgs_nil)))))
  (pss_cons (ps_while PassesOwn.never (pt_cmpR (op_neDK K (hu := hr.units)) (pv 5) (pe_lst pa_nil) (nomark _)) (pss_cons (ps_par (i := 6) (j := 5) (by rfl) sc_law_within.nd rfl rfl (by decide) rfl rfl (pa_cons (pe_ix (ix_listK K) (pv 5) pe_int (fun _ _ => rfl)) (pa_cons (pe_slice (sl_listK K) (pv 5) (po_some pe_int) po_none) pa_nil)) (by rfl))
  (pss_one (ps_if (pt_cmp (pc_dnotin (hu_of hr) (pv 6) (pv 4))) (pss_cons (ps_dput (hu_of hr) (pv 4) (pv 6) (pe_lc (own := [("_law_left", 12)]) rfl sc_law_within.nd (pi_listK K (hl := (pe_cal C_law_lefts hr (by decide) (by rfl) (pa_cons (pv 6) (pa_cons (pv 3) pa_nil))))) (blkOk_by (own := [("_law_left", 12)]) (N := N_law_within) (sc := defScope st_law_within) (by decide +kernel)) (fun _ _ _ _ _ => (pg_name (i := 12) sc_law_within.nd rfl (by first | exact Or.inl rfl | exact Or.inr rfl))) (fun _ _ _ _ _ => pts_nil) (fun _ _ _ _ _ => (pe_ifExp (pt_val (pe_cal C_law_keeps hr (by decide) (by rfl) (pa_cons (pv 0) (pa_cons (pv 12) pa_nil)))) (pe_cal C_law_made hr (by decide) (by rfl) (pa_cons (pv 12) (pa_cons (pv 3) (pa_cons (pv 2) pa_nil)))) (pe_lst pa_nil)))) (by rfl))
  (pss_one (ps_for PassesOwn.never rfl (pi_listK K (hl := (pe_dget (hu_of hr) (pv 4) (pv 6) (fun _ _ => rfl)))) (pg_name (i := 7) sc_law_within.nd rfl (by first | exact Or.inl rfl | exact Or.inr rfl)) (pss_one (ps_set (i := 5) sc_law_within.nd rfl (Or.inl rfl) (pe_op op_cat (pv 5) (pe_lc (own := [("_law_one", 13)]) rfl sc_law_within.nd (pi_listK K (hl := (pv 7))) (blkOk_by (own := [("_law_one", 13)]) (N := N_law_within) (sc := defScope st_law_within) (by decide +kernel)) (fun _ _ _ _ _ => (pg_name (i := 13) sc_law_within.nd rfl (by first | exact Or.inl rfl | exact Or.inr rfl))) (fun _ _ _ _ _ => (pts_one (pt_cmp (pc_dnotin (hu_of hr) (pv 13) (pv 4))))) (fun _ _ _ _ _ => (pv 13))))))))) pss_nil))))
  (pss_cons (ps_asg (pe_tup (pa_cons (pe_callTy (cr_dictTK K (hc := rfl) (hu := un_of hr (by decide))) (by rfl) B.dict boot_dict (pa_cons (pe_lock (pe_lc (own := [("_law_masks", 6)]) rfl sc_law_within.nd (pi_keysMT (pv 4)) (blkOk_by (own := [("_law_masks", 6)]) (N := N_law_within) (sc := defScope st_law_within) (by decide +kernel)) (fun _ _ _ _ _ => (pg_name (i := 6) sc_law_within.nd rfl (by first | exact Or.inl rfl | exact Or.inr rfl))) (fun _ _ _ _ _ => (pts_one (pt_not (pt_val (pe_cal C_law_keeps hr (by decide) (by rfl) (pa_cons (pv 0) (pa_cons (pv 6) pa_nil))))))) (fun _ _ _ _ _ => (pe_tup (pa_cons (pv 6) (pa_cons pe_int pa_nil)))))) pa_nil)) (pa_cons pe_int pa_nil))) (pg_tupK K (n := 2) (hc := rfl) (h := (pgs_cons (pg_name (i := 8) sc_law_within.nd rfl (by first | exact Or.inl rfl | exact Or.inr rfl)) (pgs_cons (pg_name (i := 9) sc_law_within.nd rfl (by first | exact Or.inl rfl | exact Or.inr rfl)) pgs_nil)))))
  (pss_cons (ps_set (i := 10) sc_law_within.nd rfl (Or.inl rfl) pe_bl)
  (pss_cons (ps_while PassesOwn.never (pt_val (pv 10)) (pss_cons (ps_par (i := 9) (j := 11) (by rfl) sc_law_within.nd rfl rfl (by decide) rfl rfl (pa_cons (pe_op op_add (pv 9) pe_int) (pa_cons (pe_lst pa_nil) pa_nil)) (by rfl))
  (pss_cons (ps_lock (ps_for PassesOwn.never rfl (pi_keysMT (pv 4)) (pg_name (i := 6) sc_law_within.nd rfl (by first | exact Or.inl rfl | exact Or.inr rfl)) (pss_one (ps_if (PW.pt (pw_and (pt_cmp (pc_dnotin (hu_of hr) (pv 6) (pv 8))) (pw_and1 (pt_cmpR (op_neDK K (hu := hr.units)) (pe_lc (own := [("_law_made_here", 7)]) rfl sc_law_within.nd (pi_listK K (hl := (pe_dget (hu_of hr) (pv 4) (pv 6) (fun _ _ => rfl)))) (blkOk_by (own := [("_law_made_here", 7)]) (N := N_law_within) (sc := defScope st_law_within) (by decide +kernel)) (fun _ _ _ _ _ => (pg_name (i := 7) sc_law_within.nd rfl (by first | exact Or.inl rfl | exact Or.inr rfl))) (fun _ _ _ _ _ => (pts_one (pt_cmpR (op_eqDK K (hu := hr.units)) (pe_lc (own := [("_law_one", 13)]) rfl sc_law_within.nd (pi_listK K (hl := (pv 7))) (blkOk_by (own := [("_law_one", 13)]) (N := N_law_within) (sc := relS (wiIn st_law_within) (defScope st_law_within)) (by decide +kernel)) (fun _ _ _ _ _ => (pg_name (i := 13) sc_law_within.nd rfl (by first | exact Or.inl rfl | exact Or.inr rfl))) (fun _ _ _ _ _ => (pts_one (pt_cmp (pc_dnotin (hu_of hr) (pv 13) (pv 8))))) (fun _ _ _ _ _ => (pv 13))) (pe_lst pa_nil) (nomark _)))) (fun _ _ _ _ _ => (pv 7))) (pe_lst pa_nil) (nomark _))))) (pss_one (ps_expr (pe_bm PySem.F.plainAttrs_list PySem.F.slot_list_append PySem.F.type_list_append mt_append (pv 11) (pa_cons (pv 6) pa_nil)))) pss_nil))))
  (pss_cons (ps_for PassesOwn.never rfl (pi_listK K (hl := (pv 11))) (pg_name (i := 6) sc_law_within.nd rfl (by first | exact Or.inl rfl | exact Or.inr rfl)) (pss_one (ps_dput (hu_of hr) (pv 8) (pv 6) (pv 9) (by rfl))))
  (pss_one (ps_set (i := 10) sc_law_within.nd rfl (Or.inl rfl) (pe_cmpR (op_neDK K (hu := hr.units)) (pv 11) (pe_lst pa_nil) (nomark _))))))))
  (pss_one (ps_ret (pe_dget2 (hu_of hr) (pv 8) (pe_cal C_law_sorted hr (by decide) (by rfl) (pa_cons (pv 1) pa_nil)) pe_non ⟨rfl, rfl, rfl, rfl⟩)))))))), ?_⟩
  obtain ⟨_, ⟨t, x, most, melts⟩, ⟨u, rfl, it, fx, fw, mo, cap⟩, k⟩ := h
  dsimp only at it fx fw mo cap k
  have n5 := fw.n5
  have m2 := fw.m2
  have mn := fw.mn
  generalize hn : x.length = n at *
  generalize hU : (2 ^ t) ^ n = U at *
  intro W hW
  have kW : Kp H (upd H W (.dT [])) := Kp.new hW
  refine ⟨_, rfl, rfl, x, ⟨u, rfl, .inl (it.kp kW)⟩, ?_⟩
  rintro u1 H1 k1 iu1
  refine ⟨by show 1 ≤ sizeLine; decide, fun r0 hr0 => ?_⟩
  have eW1 : H1 W = some (.dT (kP [])) := k1.dT upd_same
  have nWr : W ≠ r0 := ne_of_none eW1 hr0
  have k2 : Kp H1 (upd H1 r0 (.lst [u1])) := Kp.new hr0
  have eW2 := k2.dT eW1
  have eR2 : upd H1 r0 (.lst [u1]) r0 = some (.lst [u1]) := upd_same
  have iu2 := iu1.kp k2
  have kp2 := (kW.trans k1).trans k2
  generalize upd H1 r0 (.lst [u1]) = H2 at *
  refine ⟨by show 2 ≤ sizeLine; decide, fun pt hpt => ?_⟩
  have kpt : Kp H2 (upd H2 pt (.tup [.ref W, .ref r0])) := Kp.new hpt
  refine ⟨pt, _, rfl, SqT.of upd_same, rfl, _, _, rfl, _, _, rfl, rfl, ?_⟩
  have kp3 := kp2.trans kpt
  have eW3 := kpt.dT eW2
  have eR3 := kpt.lst eR2
  have iu3 := iu2.kp kpt
  generalize upd H2 pt (.tup [.ref W, .ref r0]) = H3 at *
  refine while_m (fun μ σ H' => Kp H H' ∧ ∃ kvs row vs L o6 o7, σ = [some (nV t), some u, some (nV most), some (nV melts), some (.ref W), some (.ref row), o6, o7, none, none, none, none, none, none] ∧ H' W = some (.dT (kP kvs)) ∧ (∀ p ∈ kvs, AnsM (off W H') p.2 (lawAns t most melts p.1)) ∧ H' row = some (.lst vs) ∧ ITs H' vs L ∧ HalfL t most melts n (inOrder x) (kvs.map (·.1)) L ∧ L.length ≤ 1 + kvs.length * 1280 ∧ μ = (U - kvs.length) * 1281 + L.length) ⟨_, kp3, [], r0, [u1], [inOrder x], _, _, rfl, eW3, (by intro p hp; cases hp), eR3, .cons iu3 .nil, ⟨List.nodup_nil, fun m q => ?_, .inr (by simp), (by intro m hm; cases hm)⟩, by simp, rfl⟩ ?_
  · rcases q with q | q
    · cases q
    · rw [List.mem_singleton.mp q]
      exact order_fit fx
  rintro μ σ H4 ⟨kp4, kvs, row, vs, L, o6, o7, rfl, eW4, an4, eR4, its4, half, sz4, rfl⟩
  have kU : kvs.length ≤ U := by
    have := keys_le half.nd fun m hm => half.fit m (.inl hm)
    rw [List.length_map, hU] at this
    exact this
  refine ⟨_, rfl, Nat.zero_le _, fun e he => ne_nil (a := row) (b := e) (by rw [upd_ne (ne_of_none eR4 he)]; exact eR4) (its4.tk (Tk.new he)) upd_same ⟨_, rfl, ite_b (fun hb => ⟨_, fun _ _ h => h, ?_⟩) fun hb => ?_⟩⟩
  · have k5 : Kp H4 (upd H4 e (.lst [])) := Kp.new he
    have kp5 := kp4.trans k5
    have eW5 := k5.dT eW4
    have eR5 := k5.lst eR4
    have its5 : ITs (upd H4 e (.lst [])) vs L := its4.tk k5.tk
    have an5 : ∀ p ∈ kvs, AnsM (off W (upd H4 e (.lst []))) p.2 (lawAns t most melts p.1) := fun p hp => (an4 p hp).kp (off_kp k5)
    generalize upd H4 e (.lst []) = H5 at *
    cases its5 with
    | nil => cases hb
    | @cons y m vs0 L0 itm its0 =>
    refine ⟨_, rfl, row, _, 0, y, rfl, rfl, SqL.of eR5, atI_nat (j := 0) rfl, ?_⟩
    refine ⟨_, rfl, 1, rfl, row, _, rfl, SqL.of eR5, fun p hp => ?_⟩
    rw [cut1]
    have k6 : Kp H5 (upd H5 p (.lst vs0)) := Kp.new hp
    have kp6 := kp5.trans k6
    have eW6 := k6.dT eW5
    have eR6 : upd H5 p (.lst vs0) p = some (.lst vs0) := upd_same
    have its6 : ITs (upd H5 p (.lst vs0)) vs0 L0 := ITs.tk its0 k6.tk
    have itm6 := IT.kp itm k6
    have an6 : ∀ q ∈ kvs, AnsM (off W (upd H5 p (.lst vs0))) q.2 (lawAns t most melts q.1) := fun q hq => (an5 q hq).kp (off_kp k6)
    generalize upd H5 p (.lst vs0) = H6 at *
    refine ⟨_, _, rfl, ?_⟩
    refine ⟨_, rfl, _, rfl, W, _, rfl, DR.get (.inl eW6) itm6, ⟨_, rfl, ?_⟩⟩
    rw [val_mem]
    refine ite_b (fun hb2 => ?_) fun hb2 => ?_
    · have hk : m ∉ kvs.map (·.1) := by simpa using hb2
      have fm := half.fit m (.inr (by simp))
      have lf := lefts_fit' fm mn
      obtain ⟨aL, aM⟩ := lawAns_len (most := most) fw fm
      have sz0 : L0.length ≤ kvs.length * 1280 := by
        rw [List.length_cons] at sz4
        omega
      have kU1 : kvs.length + 1 ≤ U := by
        have := keys_le (t := t) (n := n) (keys := kvs.map (·.1) ++ [m]) (by
          rw [List.nodup_append]
          exact ⟨half.nd, by simp, fun a ha b hb => by
            rw [List.mem_singleton.mp hb]
            rintro rfl
            exact hk ha⟩) fun y hy => by
          rcases List.mem_append.mp hy with hy | hy
          · exact half.fit y (.inl hy)
          · rw [List.mem_singleton.mp hy]
            exact fm
        rw [List.length_append, List.length_map, hU] at this
        exact this
      refine ⟨_, rfl, _, rfl, rfl, (m, melts), ⟨y, rfl, itm6, by show m.length ≤ 5; rw [fm.1]; exact n5, m2⟩, ?_⟩
      rintro _ H7 k7 ⟨r, lvs, rfl, er, itl⟩
      dsimp only at itl
      refine ⟨r, rfl, ⟨_, SqL.of er⟩, fun D hD => ?_⟩
      have la : (lawAns t most melts m).length = (lawLefts m melts).length := by unfold lawAns; rw [List.length_map]
      refine turns_list (xs := lvs) (fun j H' => AccO H7 D LT ((lawAns t most melts m).take j) H') ⟨Kp.new hD, hD, [], upd_same, .nil⟩ (fun j H' I => SqL.of (I.1.lst er)) ?_ ?_
      · intro j y2 H' hy2 I
        obtain ⟨left, hleft, itf⟩ := Paired.at' itl hy2
        have fl := lf left (List.mem_of_getElem? hleft)
        have itf := itf.kp I.1
        have ga : (lawAns t most melts m)[j]? = some (if lawKeeps t left then lawMade left melts most else []) := by unfold lawAns; rw [List.getElem?_map, hleft]; rfl
        have small : ((lawAns t most melts m).take j).length < sizeLine := sl (Nat.le_trans (by rw [List.length_take]; exact Nat.min_le_right _ _) (Nat.le_trans aL (by decide)))
        have hDa := I.2.2.choose_spec.1
        refine ⟨rfl, yes2 ⟨_, rfl, _, rfl, rfl, (t, left), ⟨y2, rfl, itf, by show left.length ≤ 5; rw [fl.1]; omega, fw.t9⟩, ?_⟩⟩
        rintro _ H9 k9 rfl
        refine ⟨_, rfl, ?_⟩
        dsimp only
        refine ite_b (fun hkk => ?_) fun hkk => ?_
        · have room := keeps_room hkk
          rw [fl.1] at room
          refine ⟨_, rfl, _, rfl, _, rfl, rfl, (t, left, melts, most), ⟨y2, rfl, itf.kp k9, by show Fit t left.length left; rw [fl.1]; exact fl, by show left.length + melts ≤ 5; rw [fl.1]; omega, m2, mo, fw.few room⟩, ?_⟩
          rintro _ HA kA ⟨q, ws, rfl, hq0, hq, itq⟩
          dsimp only at itq
          have nqD : q ≠ D := by
            rintro rfl
            rw [k9.lst hDa] at hq0
            cases hq0
          have hDA := kA.lst (k9.lst hDa)
          exact I.push kst_lt (k9.trans kA) (lt_off hq itq nqD fun xs z => by rw [hDA] at z; cases z) small (by rw [take_more ga, if_pos hkk])
        · refine ⟨Nat.zero_le _, fun q hq => ?_⟩
          have nqD : q ≠ D := by
            rintro rfl
            rw [k9.lst hDa] at hq
            cases hq
          refine I.push kst_lt (k9.trans (Kp.new (o := .lst []) hq)) (b := []) ⟨q, [], rfl, by rw [off_ne nqD]; exact upd_same, .nil⟩ small (by rw [take_more ga, if_neg (by rw [hkk]; decide)])
      rintro H8 ⟨k8, hD7, acc, hacc, pr⟩
      rw [itl.length, ← la, List.take_length] at pr
      have k78 := k7.trans k8
      have eW8 := k78.dT eW6
      have itm8 := itm6.kp k78
      have kp8 := kp6.trans k78
      obtain ⟨b, rfl, hbk⟩ := itm8.key
      have nDW : D ≠ W := by
        rintro rfl
        rw [eW8] at hacc
        cases hacc
      have npW : p ≠ W := by
        rintro rfl
        rw [eR6] at eW6
        cases eW6
      refine ⟨_, rfl, _, rfl, W, _, rfl, DPut.t eW8 hbk (by rw [kP_len]; exact sl (by omega)), ?_⟩
      rw [put_kP, put_new hk]
      have kp9 : Kp H (upd H8 W (.dT (kP (kvs ++ [(m, .ref D)])))) := kp8.put hW
      have t9 : Tk H8 (upd H8 W (.dT (kP (kvs ++ [(m, .ref D)])))) := Tk.dT eW8
      have eW9 : upd H8 W (.dT (kP (kvs ++ [(m, .ref D)]))) W = some (.dT (kP (kvs ++ [(m, .ref D)]))) := upd_same
      have hD9 : upd H8 W (.dT (kP (kvs ++ [(m, .ref D)]))) D = some (.lst acc) := by rw [upd_ne nDW]; exact hacc
      have eR9 : upd H8 W (.dT (kP (kvs ++ [(m, .ref D)]))) p = some (.lst vs0) := by rw [upd_ne npW]; exact k78.lst eR6
      have its9 : ITs (upd H8 W (.dT (kP (kvs ++ [(m, .ref D)])))) vs0 L0 := (ITs.tk its6 k78.tk).tk t9
      have itm9 := itm8.tk t9
      have pr9 : Paired (LT (off W H8)) acc (lawAns t most melts m) := Paired.mono (fun v l i => ltv_off (LT.kp i (kp_off H8)) (fun xs z => by rw [eW8] at z; cases z) (fun xs z => by rw [eW8] at z; cases z)) pr
      have an9 : ∀ q ∈ kvs ++ [(m, V.ref D)], AnsM (off W (upd H8 W (.dT (kP (kvs ++ [(m, .ref D)]))))) q.2 (lawAns t most melts q.1) := by
        intro q hq
        rw [off_upd]
        rcases List.mem_append.mp hq with hq | hq
        · exact (an6 q hq).kp (off_kp k78)
        · rw [List.mem_singleton.mp hq]
          exact ⟨D, acc, rfl, by rw [off_ne nDW]; exact hacc, pr9⟩
      have vm : valV (kvs ++ [(m, V.ref D)]) m = some (.ref D) := val_at (by
        rw [List.map_append, List.nodup_append]
        exact ⟨half.nd, by simp, fun a ha b hb => by
          rw [List.mem_singleton.mp hb]
          rintro rfl
          exact hk ha⟩) (by simp)
      have keysE : (kvs ++ [(m, V.ref D)]).map (·.1) = kvs.map (·.1) ++ [m] := by rw [List.map_append]; rfl
      have pr9' : Paired (LT (upd H8 W (.dT (kP (kvs ++ [(m, .ref D)]))))) acc (lawAns t most melts m) := Paired.mono (fun v l i => LT.kp i ((kp_off H8).put off_same)) pr9
      generalize upd H8 W (.dT (kP (kvs ++ [(m, .ref D)]))) = H9 at *
      generalize hkv : kvs ++ [(m, V.ref D)] = kvs2 at *
      have hos := half.take (N := newL (kvs2.map (·.1)) (lawAns t most melts m)) mn hk (fun z hz => by
        unfold newL at hz
        obtain ⟨l, hl, hz⟩ := List.mem_flatMap.mp hz
        exact ⟨l, hl, (List.mem_filter.mp hz).1⟩) (fun l hl z hz => by
        by_cases hin : z ∈ kvs.map (·.1) ++ [m]
        · exact .inl hin
        · refine .inr ?_
          unfold newL
          refine List.mem_flatMap.mpr ⟨l, hl, List.mem_filter.mpr ⟨hz, ?_⟩⟩
          rw [keysE, decide_eq_false hin]
          rfl)
      have nlen := newL_len (keys := kvs2.map (·.1)) aL aM
      have nlen2 : ∀ j, (newL (kvs2.map (·.1)) ((lawAns t most melts m).take j)).length ≤ 1280 := fun j => newL_len (Nat.le_trans (by rw [List.length_take]; exact Nat.min_le_right _ _) aL) fun l hl => aM l (List.mem_of_mem_take hl)
      generalize lawAns t most melts m = os at *
      refine ⟨_, rfl, _, rfl, W, .ref D, rfl, by rw [← vm]; exact DR.get (.inl eW9) itm9, ?_⟩
      refine ⟨D, rfl, ⟨_, SqL.of hD9⟩, for_list (K := K) (a := D) (xs := acc) (fun j σ H' => Kp H9 H' ∧ ∃ row vs o7, σ = [some (nV t), some u, some (nV most), some (nV melts), some (.ref W), some (.ref row), some (.ref b), o7, none, none, none, none, none, none] ∧ H' row = some (.lst vs) ∧ ITs H' vs (L0 ++ newL (kvs2.map (·.1)) (os.take j))) ⟨Kp.refl _, p, vs0, _, rfl, eR9, by rw [show newL (kvs2.map (·.1)) (os.take 0) = [] from rfl, List.append_nil]; exact its9⟩ (fun j σ H' _ I => SqL.of (I.1.lst hD9)) ?_ ?_⟩
      · rintro j z σ HA hz ⟨kA, row, vs, o7, rfl, eRA, itsA⟩
        obtain ⟨l, hl, lt⟩ := Paired.at' pr9' hz
        obtain ⟨bl, zs, rfl, ebl, itz⟩ := LT.kp lt kA
        have l64 := aM l (List.mem_of_getElem? hl)
        have eWA := kA.dT eW9
        refine ⟨_, rfl, _, rfl, bl, rfl, ⟨_, SqL.of ebl⟩, fun E hE => ?_⟩
        refine turns_list (xs := zs) (fun i H' => AccI HA E IT ((l.take i).filter fun m => !decide (m ∈ kvs2.map (·.1))) H') (AccI.zero hE) (fun i H' I => SqL.of (I.1.lst ebl)) ?_ ?_
        · intro i y3 H' hy3 I
          obtain ⟨m3, hm3, it3⟩ := Paired.at' itz hy3
          have it3 := it3.kp I.1
          refine ⟨rfl, _, rfl, _, rfl, W, _, rfl, DR.get (.inl (I.1.dT eWA)) it3, ⟨_, rfl, ?_⟩⟩
          rw [val_mem]
          refine ite_b (fun hb => ⟨_, rfl, ?_⟩) fun hb => ?_
          · exact I.push stab_it hE (Kp.refl _) it3 (sl (Nat.le_trans (List.length_filter_le _ _) (Nat.le_trans (by rw [List.length_take]; exact Nat.min_le_right _ _) (by omega)))) (by rw [take_more hm3]; exact fil_yes hb)
          · exact I.keep stab_it (Kp.refl _) (by rw [take_more hm3]; exact fil_no hb)
        · rintro HB ⟨kB, acc2, hacc2, p2⟩
          rw [itz.length, List.take_length] at p2
          have f1 : newL (kvs2.map (·.1)) (os.take (j + 1)) = newL (kvs2.map (·.1)) (os.take j) ++ l.filter fun m => !decide (m ∈ kvs2.map (·.1)) := by
            unfold newL
            rw [take_more hl, List.flatMap_append]
            simp
          have lenb : (l.filter fun m => !decide (m ∈ kvs2.map (·.1))).length ≤ 64 := Nat.le_trans (List.length_filter_le _ _) l64
          refine ⟨row, E, vs, acc2, rfl, rfl, kB.lst eRA, hacc2, ?_, fun q hq => ?_⟩
          · have := nlen2 j
            rw [itsA.length, p2.length, List.length_append, sizeLine_eq]
            omega
          · have kq : Kp HB (upd HB q (.lst (vs ++ acc2))) := Kp.new hq
            refine ⟨(kA.trans kB).trans kq, q, _, _, rfl, upd_same, ?_⟩
            rw [f1, ← List.append_assoc]
            exact Paired.app (ITs.tk itsA (kB.tk.trans kq.tk)) (ITs.tk p2 kq.tk)
      · rintro σ HA ⟨kA, row, vs, o7, rfl, eRA, itsA⟩
        rw [pr9'.length, List.take_length] at itsA
        refine ⟨_, ?_, kp9.trans kA, kvs2, row, vs, _, _, _, rfl, kA.dT eW9, fun q hq => (an9 q hq).kp (off_kp kA), eRA, itsA, (by rw [keysE] at hos ⊢; exact hos), ?_, rfl⟩
        · have l2 : kvs2.length = kvs.length + 1 := by rw [← hkv, List.length_append]; rfl
          rw [List.length_cons, List.length_append, l2]
          omega
        · have l2 : kvs2.length = kvs.length + 1 := by rw [← hkv, List.length_append]; rfl
          rw [List.length_append, l2]
          omega
    · have hk : m ∈ kvs.map (·.1) := by simpa using hb2
      refine ⟨_, ?_, kp6, kvs, p, vs0, L0, _, _, rfl, eW6, an6, eR6, its6, half.skip hk, ?_, rfl⟩
      · rw [List.length_cons]
        omega
      · rw [List.length_cons] at sz4
        omega
  · have hL : L = [] := by simpa using hb
    subst hL
    have k5 : Kp H4 (upd H4 e (.lst [])) := Kp.new he
    have kp5 := kp4.trans k5
    have eW5 := k5.dT eW4
    have an5 : ∀ p ∈ kvs, AnsM (off W (upd H4 e (.lst []))) p.2 (lawAns t most melts p.1) := fun p hp => (an4 p hp).kp (off_kp k5)
    generalize upd H4 e (.lst []) = H5 at *
    have hW5 : H W = none := hW
    refine ⟨W, _, eW5, True.intro, fun od => ?_⟩
    have t5 : Tk H5 (upd H5 W (.frz od (.dT (kP kvs)))) := Tk.dT eW5
    refine ⟨_, rfl, W, od, _, rfl, upd_same, fun D hD => ?_⟩
    have klen : kvs.length ≤ 4096 := Nat.le_trans kU cap
    -- pairs (place, 0)
    refine turns_keys (o := od) (kvs := kP kvs) (fun i H' => AccI (upd H5 W (.frz od (.dT (kP kvs)))) D PairV (((kvs.map (·.1)).take i).filter fun m => !lawKeeps t m) H') (AccI.zero hD) (fun i H' I => I.1.frz upd_same) ?_ ?_
    · rintro i kk v q H' hkv hq I
      obtain ⟨m, hm, rfl⟩ := kP_at hkv
      have it : IT H' (.ref q) m := IT.of_key hq
      have mk : m ∈ kvs.map (·.1) := List.mem_map.mpr ⟨_, List.mem_of_getElem? hm, rfl⟩
      have gm : (kvs.map (·.1))[i]? = some m := by rw [List.getElem?_map, hm]; rfl
      have fm := half.fit m (.inl mk)
      have st : Stab PairV := fun H H' v m k ⟨p, b, e1, e2, e3⟩ => ⟨p, b, e1, k _ _ e2, k _ _ e3⟩
      refine ⟨rfl, ⟨_, rfl, _, rfl, rfl, (t, m), ⟨.ref q, rfl, it, by show m.length ≤ 5; rw [fm.1]; exact n5, fw.t9⟩, ?_⟩⟩
      rintro _ H7 k7 rfl
      refine ⟨_, rfl, ite_b (fun hb => ⟨_, rfl, by show 2 ≤ sizeLine; decide, fun p hp => ?_⟩) (fun hb => I.keep st k7 (by rw [take_more gm]; exact fil_no (p := fun m => !lawKeeps t m) hb))⟩
      refine I.push st hD (k7.trans (Kp.new (o := .tup [.ref q, .int 0]) hp)) (b := m) ⟨p, q, rfl, upd_same, (Tk.new hp) _ _ (k7.tup it.choose_spec.2 |> fun h => by obtain ⟨b, e1, e2⟩ := it; cases e1; exact k7.tup e2)⟩ (sl (Nat.le_trans (List.length_filter_le _ _) (Nat.le_trans (by rw [List.length_take, List.length_map]; exact Nat.min_le_right _ _) (Nat.le_trans klen (by decide))))) (by rw [take_more gm]; exact fil_yes (p := fun m => !lawKeeps t m) hb)
    · rintro H6 ⟨kp6, acc, hacc, pr⟩
      rw [kP_len, List.take_of_length_le (by rw [List.length_map]; exact Nat.le_refl _)] at pr
      refine ⟨kp6.frz upd_same, ?_⟩
      have kU5 : Kp H5 (upd H6 W (.dT (kP kvs))) := Kp.unlock eW5 (fun ps z => by cases z) kp6
      have nDW : D ≠ W := by
        rintro rfl
        rw [upd_same] at hD
        cases hD
      have haccU : upd H6 W (.dT (kP kvs)) D = some (.lst acc) := by rw [upd_ne nDW]; exact hacc
      have prU : Paired (PairV (upd H6 W (.dT (kP kvs)))) acc ((kvs.map (·.1)).filter fun m => !lawKeeps t m) := Paired.mono (fun v m ⟨p, b, e1, e2, e3⟩ => ⟨p, b, e1, Tk.frz (kp6.frz upd_same) _ _ e2, Tk.frz (kp6.frz upd_same) _ _ e3⟩) pr
      have eWU : upd H6 W (.dT (kP kvs)) W = some (.dT (kP kvs)) := upd_same
      generalize upd H6 W (.dT (kP kvs)) = HU at *
      have kpU := kp5.trans kU5
      have anU : ∀ p ∈ kvs, AnsM (off W HU) p.2 (lawAns t most melts p.1) := fun p hp => (an5 p hp).kp (off_kp kU5)
      have R0 : RecL t most melts (kvs.map (·.1)) ((kvs.map (·.1)).filter fun m => !lawKeeps t m) := ⟨half.nd.sublist List.filter_sublist, fun m hm => (List.mem_filter.mp hm).1, fun m hm h => List.mem_filter.mpr ⟨hm, by rw [h]; rfl⟩, fun m hm => .base (by simpa using (List.mem_filter.mp hm).2)⟩
      generalize (kvs.map (·.1)).filter (fun m => !lawKeeps t m) = F0 at *
      obtain ⟨ps, ks, rfl, l1, l2, at1⟩ := pairs_split prU
      refine ⟨D, ps, kP (F0.map fun m => (m, .int 0)), ks, rfl, SqL.of haccU, by rw [kP_len, List.length_map]; exact l1, by rw [kP_len, List.length_map]; exact l2, ?_, ?_, fun N hN => ?_⟩
      · unfold kP
        rw [List.map_map, List.map_map]
        exact List.Pairwise.map _ (fun a b h z => h (kM_inj z)) R0.nd
      · rintro i p b ⟨kk, vv⟩ h1 h2 h3
        obtain ⟨m, hm, rfl⟩ := kP_at h3
        rw [List.getElem?_map] at hm
        obtain ⟨m', hm', e⟩ := Option.map_eq_some_iff.mp hm
        cases e
        obtain ⟨q1, q2⟩ := at1 i p b m h1 h2 hm'
        exact ⟨q1, by rw [kM_kV]; exact q2⟩
      have kN : Kp HU (upd HU N (.dT (kP (F0.map fun m => (m, .int 0))))) := Kp.new hN
      have eN : upd HU N (.dT (kP (F0.map fun m => (m, .int 0)))) N = some (.dT (kP (F0.map fun m => (m, .int 0)))) := upd_same
      generalize upd HU N (.dT (kP (F0.map fun m => (m, .int 0)))) = HN at *
      refine ⟨by show 2 ≤ sizeLine; decide, fun pt2 hpt2 => ?_⟩
      have kpt2 : Kp HN (upd HN pt2 (.tup [.ref N, .int 0])) := Kp.new hpt2
      refine ⟨pt2, _, rfl, SqT.of upd_same, rfl, _, _, rfl, _, _, rfl, rfl, ?_⟩
      have eN2 := kpt2.dT eN
      have kN2 := kN.trans kpt2
      generalize upd HN pt2 (.tup [.ref N, .int 0]) = HM at *
      show tWhile _ _ _ _ _
      refine while_m (fun μ σ H' => Kp HU H' ∧ ∃ fkv g days o6 o7 o11, σ = [some (nV t), some u, some (nV most), some (nV melts), some (.ref W), some (.ref row), o6, o7, some (.ref N), some (.int days), some (.bl g), o11, none, none] ∧ H' N = some (.dT (kP fkv)) ∧ RecL t most melts (kvs.map (·.1)) (fkv.map (·.1)) ∧ (∀ p ∈ fkv, ∃ i, p.2 = V.int i) ∧ (g = false → (kvs.map (·.1)).filter (nextL t most melts (fkv.map (·.1))) = []) ∧ μ = 2 * (kvs.length - fkv.length) + if g = true then 1 else 0) ⟨_, kN2, F0.map fun m => (m, .int 0), true, 0, _, _, _, rfl, eN2, by rw [List.map_map, show ((fun x : List Nat × V => x.1) ∘ fun m : List Nat => (m, V.int 0)) = id from rfl, List.map_id]; exact R0, (fun p hp => by obtain ⟨m, _, e⟩ := List.mem_map.mp hp; exact ⟨0, by rw [← e]⟩), (by intro z; cases z), rfl⟩ ?_
      rintro μ σ HA ⟨kA, fkv, g, days, o6, o7, o11, rfl, eNA, R, iv, dn, rfl⟩
      refine ⟨_, rfl, _, rfl, ?_⟩
      cases g with
      | false =>
        refine ifF rfl ?_
        refine ⟨_, rfl, N, rfl, .inr ⟨_, .inl eNA⟩, ?_⟩
        refine ⟨_, rfl, rfl, x, ⟨u, rfl, .inl (it.kp (kpU.trans kA))⟩, ?_⟩
        rintro u9 HB kB iu9
        have iff1 : inOrder x ∈ fkv.map (·.1) ↔ LawLost t most melts (inOrder x) := lost_iff R (fun m hm l hl z hz => by
          rcases half.closed m hm l hl z hz with q | q
          · exact q
          · cases q) (dn rfl) (by
          rcases half.fst with q | q
          · exact q
          · cases q)
        refine ⟨_, DR.get (.inl (kB.dT eNA)) iu9, k _ _ ((kpU.trans kA).trans kB) ?_⟩
        cases hv : valV fkv (inOrder x) with
        | none =>
          refine .inl ⟨rfl, fun z => ?_⟩
          have := val_mem fkv (inOrder x)
          rw [hv, decide_eq_true (iff1.mpr z)] at this
          cases this
        | some v9 =>
          obtain ⟨p9, hp9, e9⟩ := val_of_mem hv
          obtain ⟨i9, q9⟩ := iv p9 hp9
          refine .inr ⟨⟨i9, by show v9 = _; rw [← e9, q9]⟩, iff1.mp ?_⟩
          have := val_mem fkv (inOrder x)
          rw [hv] at this
          exact of_decide_eq_true this.symm
      | true =>
        refine ifT rfl ⟨_, fun _ _ h => h, ?_⟩
        refine ⟨_, rfl, days, 1, rfl, rfl, Nat.zero_le _, fun fr hfr => ⟨_, _, rfl, ?_⟩⟩
        have eWA := kA.dT eWU
        have nWf : W ≠ fr := ne_of_none eWA hfr
        refine ⟨W, HO.dT (kP kvs), by rw [upd_ne nWf]; exact eWA, True.intro, fun od2 => ?_⟩
        rw [upd_comm (Ne.symm nWf)]
        have kz0 : Kp (off W HU) (upd HA W (.frz od2 (.dT (kP kvs)))) := ((kp_off HU).trans kA).put off_same
        have hfrz : upd HA W (.frz od2 (.dT (kP kvs))) fr = none := by rw [upd_ne (Ne.symm nWf)]; exact hfr
        have nNW : N ≠ W := by
          rintro rfl
          rw [hN] at eWU
          cases eWU
        have eNz : upd HA W (.frz od2 (.dT (kP kvs))) N = some (.dT (kP fkv)) := by rw [upd_ne nNW]; exact eNA
        have eWz : upd HA W (.frz od2 (.dT (kP kvs))) W = some (.frz od2 (.dT (kP kvs))) := upd_same
        have unl : ∀ {H' : Hp}, Kp (upd HA W (.frz od2 (.dT (kP kvs)))) H' → Kp HA (upd H' W (.dT (kP kvs))) := fun kk => Kp.unlock eWA (fun ps z => by cases z) kk
        generalize upd HA W (.frz od2 (.dT (kP kvs))) = HZ at *
        refine ⟨_, rfl, W, od2, _, rfl, by rw [upd_ne nWf]; exact eWz, ?_⟩
        refine loop_keys (fun i σ H' => AccI HZ fr IT (((kvs.map (·.1)).take i).filter (nextL t most melts (fkv.map (·.1)))) H' ∧ ∃ o6 o7, σ = [some (nV t), some u, some (nV most), some (nV melts), some (.ref W), some (.ref row), o6, o7, some (.ref N), some (.int (days + 1)), some (.bl true), some (.ref fr), none, none]) ⟨AccI.zero hfrz, _, _, rfl⟩ (fun i σ H' I => I.1.1.frz eWz) ?_ ?_
        · rintro i kk v q σ HB hkv hq ⟨I, o6, o7, rfl⟩
          obtain ⟨m, hm, rfl⟩ := kP_at hkv
          have itm : IT HB (.ref q) m := IT.of_key hq
          have mk : m ∈ kvs.map (·.1) := List.mem_map.mpr ⟨_, List.mem_of_getElem? hm, rfl⟩
          have gm : (kvs.map (·.1))[i]? = some m := by rw [List.getElem?_map, hm]; rfl
          have vm := val_at half.nd (List.mem_of_getElem? hm)
          have fm := half.fit m (.inl mk)
          obtain ⟨aL, aM⟩ := lawAns_len (most := most) fw fm
          have size : (((kvs.map (·.1)).take i).filter (nextL t most melts (fkv.map (·.1)))).length < sizeLine := sl (Nat.le_trans (List.length_filter_le _ _) (Nat.le_trans (by rw [List.length_take, List.length_map]; exact Nat.min_le_right _ _) (Nat.le_trans klen (by decide))))
          have no : ∀ H5, Kp HB H5 → nextL t most melts (fkv.map (·.1)) m = false → AccI HZ fr IT (((kvs.map (·.1)).take (i + 1)).filter (nextL t most melts (fkv.map (·.1)))) H5 := fun H5 k5 h => I.keep stab_it k5 (by rw [take_more gm]; exact fil_no h)
          refine ⟨_, rfl, _, rfl, N, _, rfl, DR.get (.inl (I.1.dT eNz)) itm, ⟨_, rfl, ?_⟩⟩
          rw [val_mem]
          refine ite_b (fun hnn => ?_) fun hnn => ⟨no _ (Kp.refl _) (by unfold nextL; rw [hnn]; rfl), _, _, rfl⟩
          have kzB := kz0.trans I.1
          obtain ⟨al, avs, rfl, eal, apr⟩ := (anU _ (List.mem_of_getElem? hm)).kp kzB
          dsimp only at apr
          have e5 : nextL t most melts (fkv.map (·.1)) m = beatM (fkv.map (·.1)) (lawAns t most melts m) := by
            unfold nextL
            rw [hnn, Bool.true_and]
          generalize lawAns t most melts m = os at *
          refine ⟨_, rfl, _, rfl, W, .ref al, rfl, by rw [← vm]; exact DR.get (.inr ⟨od2, I.1.frz eWz⟩) itm, al, rfl, ⟨_, SqL.of eal⟩, fun D2 hD2 => ?_⟩
          refine turns_list (xs := avs) (fun j H' => AccO HB D2 LT ((os.take j).filter fun l => (l.filter fun m => !decide (m ∈ fkv.map (·.1))).isEmpty) H') ⟨Kp.new hD2, hD2, [], upd_same, .nil⟩ (fun j H' I => SqL.of (I.1.lst eal)) ?_ ?_
          · intro j z HC hz I2
            obtain ⟨l, hl, ltl⟩ := Paired.at' apr hz
            have l64 := aM l (List.mem_of_getElem? hl)
            obtain ⟨bl, zs, rfl, ebl, itz⟩ := LT.kp ltl I2.1
            refine ⟨rfl, _, rfl, bl, rfl, ⟨_, SqL.of ebl⟩, fun E hE => ?_⟩
            refine turns_list (xs := zs) (fun i H' => AccI HC E IT ((l.take i).filter fun m => !decide (m ∈ fkv.map (·.1))) H') (AccI.zero hE) (fun i H' I => SqL.of (I.1.lst ebl)) ?_ ?_
            · intro i y3 H' hy3 I3
              obtain ⟨m3, hm3, it3⟩ := Paired.at' itz hy3
              have it3 := it3.kp I3.1
              refine ⟨rfl, _, rfl, _, rfl, N, _, rfl, DR.get (.inl (((I.1.trans I2.1).trans I3.1).dT eNz)) it3, ⟨_, rfl, ?_⟩⟩
              rw [val_mem]
              refine ite_b (fun hb => ⟨_, rfl, ?_⟩) fun hb => ?_
              · exact I3.push stab_it hE (Kp.refl _) it3 (sl (Nat.le_trans (List.length_filter_le _ _) (Nat.le_trans (by rw [List.length_take]; exact Nat.min_le_right _ _) (by omega)))) (by rw [take_more hm3]; exact fil_yes hb)
              · exact I3.keep stab_it (Kp.refl _) (by rw [take_more hm3]; exact fil_no hb)
            · rintro HD ⟨kD, acc2, hacc2, p2⟩
              rw [itz.length, List.take_length] at p2
              refine ⟨Nat.zero_le _, fun e2 he2 => ?_⟩
              have k6 := kD.trans (Kp.new (o := .lst []) he2)
              refine eq_nil (a := E) (b := e2) (by rw [upd_ne (ne_of_none hacc2 he2)]; exact hacc2) (ITs.tk p2 (Tk.new he2)) upd_same ⟨_, rfl, ?_⟩
              refine ite_b (fun hb => ⟨_, rfl, ?_⟩) fun hb => ?_
              · exact I2.push kst_lt k6 (LT.kp ltl (kp_to_off (I2.1.trans k6) hD2)) (sl (Nat.le_trans (List.length_filter_le _ _) (Nat.le_trans (by rw [List.length_take]; exact Nat.min_le_right _ _) (by omega)))) (by rw [take_more hl]; exact fil_yes hb)
              · have := I2.kp kst_lt k6
                rw [take_more hl, fil_no (p := fun l : List (List Nat) => (l.filter fun m => !decide (m ∈ fkv.map (·.1))).isEmpty) hb]
                exact this
          · rintro HC ⟨kC, hD2', acc2, hacc2, p2⟩
            rw [apr.length, List.take_length] at p2
            refine ⟨Nat.zero_le _, fun e2 he2 => ?_⟩
            have k6 := kC.trans (Kp.new (o := .lst []) he2)
            refine ne_nil2 (a := D2) (b := e2) (by rw [upd_ne (ne_of_none hacc2 he2)]; exact hacc2) (Paired.mono (fun _ _ i => LT.kp (LT.kp i (kp_off _)) (Kp.new he2)) p2) upd_same ⟨_, rfl, ?_⟩
            have e6 : (!(os.filter fun l => (l.filter fun m => !decide (m ∈ fkv.map (·.1))).isEmpty).isEmpty) = beatM (fkv.map (·.1)) os := by
              unfold beatM
              rw [Bool.eq_iff_iff, Bool.not_eq_true', List.isEmpty_eq_false_iff_exists_mem, List.any_eq_true]
              constructor
              · rintro ⟨l, hl⟩
                exact ⟨l, (List.mem_filter.mp hl).1, (List.mem_filter.mp hl).2⟩
              · rintro ⟨l, h1, h2⟩
                exact ⟨l, List.mem_filter.mpr ⟨h1, h2⟩⟩
            rw [e6, ← e5]
            refine ite_b (fun hb => ?_) fun hb => ⟨no _ k6 hb, _, _, rfl⟩
            refine ⟨_, rfl, .inl ⟨rfl, _, SqL.of (k6.lst I.2.choose_spec.1)⟩, _, rfl, ?_⟩
            obtain ⟨xs, hx, hz2, I4⟩ := I.push stab_it hfrz k6 (itm.kp k6) size (m' := ((kvs.map (·.1)).take (i + 1)).filter (nextL t most melts (fkv.map (·.1)))) (by rw [take_more gm]; exact fil_yes hb)
            exact ⟨fr, xs, _, rfl, rfl, hx, hz2, I4, _, _, rfl⟩
        · rintro σ HB ⟨⟨kB, acc, hacc, pr9⟩, o6, o7, rfl⟩
          rw [kP_len, List.take_of_length_le (by rw [List.length_map]; exact Nat.le_refl _)] at pr9
          refine ⟨kB.frz eWz, ?_⟩
          have kU2 : Kp HA (upd HB W (.dT (kP kvs))) := unl kB
          have tU2 : Tk HB (upd HB W (.dT (kP kvs))) := Tk.frz (kB.frz eWz)
          have hacc9 : upd HB W (.dT (kP kvs)) fr = some (.lst acc) := by rw [upd_ne (Ne.symm nWf)]; exact hacc
          have pr10 : ITs (upd HB W (.dT (kP kvs))) acc ((kvs.map (·.1)).filter (nextL t most melts (fkv.map (·.1)))) := ITs.tk pr9 tU2
          have eN9 : upd HB W (.dT (kP kvs)) N = some (.dT (kP fkv)) := kU2.dT eNA
          have kU3 := kA.trans kU2
          generalize upd HB W (.dT (kP kvs)) = HV at *
          have L6 : ((kvs.map (·.1)).filter (nextL t most melts (fkv.map (·.1)))).length ≤ kvs.length := by
            have := List.length_filter_le (nextL t most melts (fkv.map (·.1))) (kvs.map (·.1))
            rw [List.length_map] at this
            exact this
          generalize hNx : (kvs.map (·.1)).filter (nextL t most melts (fkv.map (·.1))) = Lx at *
          refine ⟨_, rfl, fr, rfl, ⟨_, SqL.of hacc9⟩, for_list (K := K) (a := fr) (xs := acc) (fun i σ H' => Kp HU H' ∧ H' fr = some (.lst acc) ∧ ITs H' acc Lx ∧ ∃ fkv' o6 o7, σ = [some (nV t), some u, some (nV most), some (nV melts), some (.ref W), some (.ref row), o6, o7, some (.ref N), some (.int (days + 1)), some (.bl true), some (.ref fr), none, none] ∧ H' N = some (.dT (kP fkv')) ∧ fkv'.map (·.1) = (Lx.take i).foldl putN (fkv.map (·.1)) ∧ ∀ p ∈ fkv', ∃ i, p.2 = V.int i) ⟨kU3, hacc9, pr10, fkv, _, _, rfl, eN9, rfl, iv⟩ (fun i σ H' _ I => SqL.of I.2.1) ?_ ?_⟩
          · rintro i y σ H8 hy ⟨kp8, hE8, p8, fkv', o6, o7, rfl, hf8, ef8, iv8⟩
            obtain ⟨m, hm, itm⟩ := Paired.at' p8 hy
            obtain ⟨b, rfl, hbk⟩ := itm.key
            have nEN : fr ≠ N := by
              rintro rfl
              rw [hE8] at hf8
              cases hf8
            refine ⟨_, rfl, _, rfl, _, rfl, N, _, rfl, DPut.t hf8 hbk ?_, ?_⟩
            · rw [kP_len, sizeLine_eq]
              have e2 : fkv'.length = (fkv'.map (·.1)).length := by rw [List.length_map]
              rw [e2, ef8]
              have s1 := putNs_len (Lx.take i) (fkv.map (·.1))
              have s3 := nodup_len _ _ R.nd R.sub
              rw [List.length_map, List.length_map] at s3
              rw [List.length_map, List.length_take] at s1
              omega
            · refine ⟨kp8.put hN, by rw [upd_ne nEN]; exact hE8, p8.tk (Tk.dT hf8), putK fkv' m (.int (days + 1)), _, _, rfl, ?_, ?_, put_vals iv8⟩
              · rw [put_kP]
                exact upd_same
              · rw [put_keys, ef8, take_more hm, List.foldl_append]
                rfl
          · rintro σ H8 ⟨kp8, hE8, p8, fkv', o6, o7, rfl, hf8, ef8, iv8⟩
            rw [p8.length, List.take_length] at ef8
            have R' : RecL t most melts (kvs.map (·.1)) (fkv'.map (·.1)) := by
              rw [ef8, ← hNx]
              exact R.step
            have len1 := nodup_len _ _ R'.nd R'.sub
            rw [List.length_map, List.length_map] at len1
            refine ⟨_, rfl, Nat.zero_le _, fun e9 he9 => ne_nil (a := fr) (b := e9) (by rw [upd_ne (ne_of_none hE8 he9)]; exact hE8) (p8.tk (Tk.new he9)) upd_same ?_⟩
            refine ⟨_, ?_, kp8.trans (Kp.new (o := .lst []) he9), fkv', !Lx.isEmpty, _, _, _, _, rfl, (Kp.new he9).dT hf8, R', iv8, ?_, rfl⟩
            · rw [if_pos rfl]
              by_cases hx : Lx = []
              · have : fkv'.length = fkv.length := by
                  have := congrArg List.length ef8
                  rw [hx, List.length_map] at this
                  simpa using this
                rw [hx]
                show _ + (if false = true then 1 else 0) < _
                rw [if_neg (by decide)]
                omega
              · have := R.more (by rw [hNx]; exact hx)
                rw [hNx, ← ef8, List.length_map, List.length_map] at this
                split <;> omega
            · intro hx
              have hx : Lx = [] := by simpa using hx
              rw [hx] at ef8
              have ef8 : fkv'.map (·.1) = fkv.map (·.1) := ef8
              rw [ef8, hNx, hx]
end
end MX
end

section
set_option Elab.async false
set_option linter.all false
set_option maxRecDepth 100000
set_option maxHeartbeats 4000000
namespace MX
open PySem PySem.Spec PyProof.Rows L2
/-- the law's own row: the script, how far it is read, a number that turns, what is left of a wide cell -/
def RowOk (K : PySem.W.Frag) (s : Addr) (ns : List Int) (H : Hp) (r : Addr) : Prop := ∃ (a : Nat) (b cc : Int), H r = some (.lst [.ref s, nV a, .int b, .int cc]) ∧ SqL K (off r H) s (ns.map V.int) ∧ 0 ≤ b ∧ b < 2147483647
theorem RowOk.kp {K : PySem.W.Frag} {s : Addr} {ns : List Int} {H H' : Hp} {r : Addr} (h : RowOk K s ns H r) (k : Kp H H') : RowOk K s ns H' r := by
  obtain ⟨a, b, cc, e, q, h1, h2⟩ := h
  exact ⟨a, b, cc, k.lst e, (off_kp k).sqL q, h1, h2⟩
section
variable {P : Program} {w : World} {K : PySem.W.Frag} {mg : Str → Option Value} {base : Heap} {f c : Addr} {fd : FuncData}
abbrev st_law_taken : Stmt := topS 48
abbrev N_law_taken : List Str := ["_law_row", "_law_many", "_law_found", "_law_cell"]
theorem sc_law_taken : FnScope N_law_taken ["_law_row", "_law_many"] (defScope st_law_taken) := ⟨rfl, rfl, rfl, by decide +kernel, rfl, by decide +kernel, by decide +kernel⟩
def sp_law_taken (K : PySem.W.Frag) : Sp := fun vs H Q _ => vs.length = 2 ∧ ∃ (s : Addr) (ns : List Int) (r : Addr) (many : Nat), vs = [.ref r, nV many] ∧ RowOk K s ns H r ∧ 1 ≤ many ∧ many ≤ 1000 ∧ ∀ H' i, Kp (off r H) H' → RowOk K s ns H' r → i < many → Q (nV i) H'
theorem cal_law_taken (F : FunC K mg "_law_taken" st_law_taken f fd c) (B : Bi mg) : Cal P w K mg base 1 "_law_taken" ["_law_row", "_law_many"] (sp_law_taken K) := by
  refine F.cal sc_law_taken (fun _ _ _ _ h => h.1) (fun _ _ _ _ _ _ us hl => match us, hl with | [_, _], _ => rfl) (fun A outer s H vs Q hr h => ?_) (fun _ _ _ _ h => h)
  refine ⟨_, (pss_cons (ps_if (pt_cmpR op_gt (pe_ix (ix_listK K) (pv 0) pe_int (fun _ _ => rfl)) pe_int (nomark _)) (pss_cons (ps_set (i := 2) sc_law_taken.nd rfl (Or.inl rfl) (pe_op op_mod (pe_callTy call_int1 (by rfl) B.int boot_int (pa_cons (pe_ix (ix_listK K) (pv 0) pe_int (fun _ _ => rfl)) pa_nil)) (pv 1)))
  (pss_cons (ps_asg (pe_op op_fdivW (pe_ix (ix_listK K) (pv 0) pe_int (fun _ _ => rfl)) (pv 1)) (pg_sub (pv 0) pe_int set_list))
  (pss_one (ps_ret (pv 2))))) pss_nil)
  (pss_cons (ps_asg (pe_op op_add (pe_ix (ix_listK K) (pv 0) pe_int (fun _ _ => rfl)) pe_int) (pg_sub (pv 0) pe_int set_list))
  (pss_cons (ps_if (pt_cmpR op_gt (pe_ix (ix_listK K) (pv 0) pe_int (fun _ _ => rfl)) (pe_callB (call_len_seqK K) (by rfl) B.len PySem.boot_len (pa_cons (pe_ix (ix_listK K) (pv 0) pe_int (fun _ _ => rfl)) pa_nil)) (nomark _)) (pss_cons (ps_asg (pe_op op_mod (pe_callTy call_int1 (by rfl) B.int boot_int (pa_cons (pe_op op_add (pe_op op_mulW (pe_ix (ix_listK K) (pv 0) pe_int (fun _ _ => rfl)) pe_int) pe_int) pa_nil)) pe_int) (pg_sub (pv 0) pe_int set_list))
  (pss_one (ps_ret (pe_op op_mod (pe_callTy call_int1 (by rfl) B.int boot_int (pa_cons (pe_op op_fdivW (pe_ix (ix_listK K) (pv 0) pe_int (fun _ _ => rfl)) pe_int) pa_nil)) (pv 1))))) pss_nil)
  (pss_cons (ps_set (i := 3) sc_law_taken.nd rfl (Or.inl rfl) (pe_ix (ix_listK K) (pe_ix (ix_listK K) (pv 0) pe_int (fun _ _ => rfl)) (pe_op op_sub (pe_ix (ix_listK K) (pv 0) pe_int (fun _ _ => rfl)) pe_int) (fun _ _ => rfl)))
  (pss_cons (ps_asg (pe_op op_mod (pe_callTy call_int1 (by rfl) B.int boot_int (pa_cons (pe_op op_add (pe_op op_add (pe_op op_mulW (pe_ix (ix_listK K) (pv 0) pe_int (fun _ _ => rfl)) pe_int) (pv 3)) pe_int) pa_nil)) pe_int) (pg_sub (pv 0) pe_int set_list))
  (pss_cons (ps_if (pt_cmpR op_ge (pv 3) (pe_op op_pow pe_int pe_int) (nomark _)) (pss_one (ps_asg (pe_op op_fdivW (pv 3) (pv 1)) (pg_sub (pv 0) pe_int set_list))) pss_nil)
  (pss_one (ps_ret (pe_op op_mod (pe_callTy call_int1 (by rfl) B.int boot_int (pa_cons (pv 3) pa_nil)) (pv 1)))))))))), ?_⟩
  obtain ⟨_, sa, ns, r, many, rfl, ⟨a, b, cc, e, sq, b0, b1⟩, m1, mz, k⟩ := h
  have up : ∀ {a' : Nat} {b' c' : Int} {i : Nat} {H' : Hp}, off r H' = off r H → H' r = some (.lst [.ref sa, nV a', .int b', .int c']) → 0 ≤ b' → b' < 2147483647 → i < many → Q (nV i) H' := fun {a' b' c' i H'} eo er p1 p2 hi =>
    k H' i (by rw [← eo]; exact kp_off H') ⟨a', b', c', er, by rw [eo]; exact sq, p1, p2⟩ hi
  have md : ∀ z : Int, ∃ i : Nat, i < many ∧ z % (many : Int) = (i : Int) := fun z => ⟨(z % (many : Int)).toNat, by have := Int.emod_lt_of_pos z (show (0 : Int) < many by omega); have := Int.emod_nonneg z (show (many : Int) ≠ 0 by omega); omega, by have := Int.emod_nonneg z (show (many : Int) ≠ 0 by omega); omega⟩
  refine ⟨_, rfl, r, _, 3, _, rfl, rfl, SqL.of e, atI_nat (j := 3) rfl, _, _, rfl, rfl, _, rfl, ?_⟩
  refine ite_b (fun hb => ?_) fun hb => ?_
  · refine ⟨_, rfl, r, _, 3, _, rfl, rfl, SqL.of e, atI_nat (j := 3) rfl, ?_⟩
    refine .inl ⟨_, rfl, _, rfl, _, _, rfl, rfl, (by show (0 : Int) < (many : Int); omega), ?_⟩
    obtain ⟨i, hi, ei⟩ := md cc
    dsimp only
    rw [ei]
    refine ⟨_, rfl, r, _, 3, _, rfl, rfl, SqL.of e, atI_nat (j := 3) rfl, _, rfl, _, _, rfl, rfl, wide_div (b := 10) (by omega) (by rw [Int.natAbs_natCast]; omega) (by decide) (by decide), ?_⟩
    refine ⟨_, rfl, r, _, 3, 3, rfl, rfl, e, rfl, ?_⟩
    exact ⟨_, rfl, up off_upd upd_same b0 b1 hi⟩
  · refine ⟨_, rfl, r, _, 1, _, rfl, rfl, SqL.of e, atI_nat (j := 1) rfl, _, _, rfl, rfl, ?_⟩
    refine ⟨_, rfl, r, _, 1, 1, rfl, rfl, e, rfl, ?_⟩
    have e1 : upd H r (.lst [.ref sa, nV (a + 1), .int b, .int cc]) r = some (.lst [.ref sa, nV (a + 1), .int b, .int cc]) := upd_same
    have o1 : off r (upd H r (.lst [.ref sa, nV (a + 1), .int b, .int cc])) = off r H := off_upd
    have sq1 : SqL K (upd H r (.lst [.ref sa, nV (a + 1), .int b, .int cc])) sa (ns.map V.int) := by
      have : SqL K (off r (upd H r (.lst [.ref sa, nV (a + 1), .int b, .int cc]))) sa (ns.map V.int) := by rw [o1]; exact sq
      exact (kp_off _).sqL this
    show tSeq _ _ _ _ (upd H r (.lst [.ref sa, nV (a + 1), .int b, .int cc]))
    generalize upd H r (.lst [.ref sa, nV (a + 1), .int b, .int cc]) = H1 at *
    refine ⟨_, rfl, r, _, 1, _, rfl, rfl, SqL.of e1, atI_nat (j := 1) rfl, _, rfl, r, _, 0, _, rfl, rfl, SqL.of e1, atI_nat (j := 0) rfl, sa, _, rfl, .inl sq1, _, _, rfl, rfl, _, rfl, ?_⟩
    have mod31 : ∀ z : Int, 0 ≤ z % 2147483647 ∧ z % 2147483647 < 2147483647 := fun z => by omega
    have bb : b.natAbs < 2 ^ 31 := by omega
    refine ite_b (fun hb2 => ?_) fun hb2 => ?_
    · refine ⟨_, rfl, r, _, 2, _, rfl, rfl, SqL.of e1, atI_nat (j := 2) rfl, _, _, rfl, rfl, wide_mul (a := 31) (b := 16) bb (by decide) (by decide) (by decide) (by decide), _, _, rfl, rfl, .inl ⟨_, rfl, _, _, rfl, rfl, (by show (0 : Int) < 2147483647; decide), ?_⟩⟩
      refine ⟨_, rfl, r, _, 2, 2, rfl, rfl, e1, rfl, ?_⟩
      refine ⟨_, rfl, r, _, 2, _, rfl, rfl, SqL.of upd_same, atI_nat (j := 2) rfl, _, _, rfl, rfl, wide_div (b := 3) (by decide) (by decide) (by decide) (by decide), .inl ⟨_, rfl, _, rfl, _, _, rfl, rfl, (by show (0 : Int) < (many : Int); omega), ?_⟩⟩
      obtain ⟨i, hi, ei⟩ := md ((b * 48271 + 11) % 2147483647 / 7)
      dsimp only
      rw [ei]
      exact up (by rw [off_upd, o1]) upd_same (mod31 _).1 (mod31 _).2 hi
    · have lt : a < ns.length := by
        have : ¬ ((ns.map V.int).length : Int) < ((a + 1 : Nat) : Int) := by simpa using hb2
        rw [List.length_map] at this
        omega
      have gc : ns[a]? = some (ns[a]'lt) := List.getElem?_eq_getElem lt
      generalize ns[a]'lt = cell at gc
      have ga : atI (ns.map V.int) (((a + 1 : Nat) : Int) - 1) = some (.int cell) := by
        rw [show (((a + 1 : Nat) : Int) - 1) = (a : Int) by omega]
        exact atI_nat (j := a) (by rw [List.getElem?_map, gc]; rfl)
      refine ⟨_, rfl, r, _, 0, _, rfl, rfl, SqL.of e1, atI_nat (j := 0) rfl, _, rfl, r, _, 1, _, rfl, rfl, SqL.of e1, atI_nat (j := 1) rfl, _, _, rfl, rfl, sa, _, _, _, rfl, rfl, sq1, ga, ?_⟩
      refine ⟨_, rfl, r, _, 2, _, rfl, rfl, SqL.of e1, atI_nat (j := 2) rfl, _, _, rfl, rfl, wide_mul (a := 31) (b := 16) bb (by decide) (by decide) (by decide) (by decide), _, rfl, _, _, rfl, rfl, _, _, rfl, rfl, .inl ⟨_, rfl, _, _, rfl, rfl, (by show (0 : Int) < 2147483647; decide), ?_⟩⟩
      refine ⟨_, rfl, r, _, 2, 2, rfl, rfl, e1, rfl, ?_⟩
      have e2 : upd H1 r (.lst [.ref sa, nV (a + 1), .int ((b * 48271 + cell + 11) % 2147483647), .int cc]) r = some (.lst [.ref sa, nV (a + 1), .int ((b * 48271 + cell + 11) % 2147483647), .int cc]) := upd_same
      have o2 : off r (upd H1 r (.lst [.ref sa, nV (a + 1), .int ((b * 48271 + cell + 11) % 2147483647), .int cc])) = off r H := by rw [off_upd, o1]
      show tSeq _ _ _ _ (upd H1 r (.lst [.ref sa, nV (a + 1), .int ((b * 48271 + cell + 11) % 2147483647), .int cc]))
      generalize upd H1 r (.lst [.ref sa, nV (a + 1), .int ((b * 48271 + cell + 11) % 2147483647), .int cc]) = H2 at *
      obtain ⟨i, hi, ei⟩ := md cell
      refine ⟨_, rfl, _, _, rfl, rfl, ⟨by decide, by decide, by decide⟩, _, _, rfl, rfl, _, rfl, ?_⟩
      refine ite_b (fun hb3 => ?_) fun hb3 => ?_
      · refine ⟨_, rfl, _, rfl, _, _, rfl, rfl, wide_div (b := 10) (by omega) (by rw [Int.natAbs_natCast]; omega) (by decide) (by decide), ?_⟩
        refine ⟨_, rfl, r, _, 3, 3, rfl, rfl, e2, rfl, ?_⟩
        refine ⟨_, rfl, .inl ⟨_, rfl, _, rfl, _, _, rfl, rfl, (by show (0 : Int) < (many : Int); omega), ?_⟩⟩
        dsimp only
        rw [ei]
        exact up (by rw [off_upd, o2]) upd_same (mod31 _).1 (mod31 _).2 hi
      · refine ⟨_, rfl, .inl ⟨_, rfl, _, rfl, _, _, rfl, rfl, (by show (0 : Int) < (many : Int); omega), ?_⟩⟩
        dsimp only
        rw [ei]
        exact up o2 e2 (mod31 _).1 (mod31 _).2 hi
end
end MX
end

section
set_option Elab.async false
set_option linter.all false
set_option maxRecDepth 100000
set_option maxHeartbeats 4000000
namespace MX
open PySem PySem.Spec PyProof.Rows L2
theorem off_lst {r b : Addr} {H H' : Hp} {xs : List V} (k : Kp (off r H) H') (ne : b ≠ r) (e : H b = some (.lst xs)) : H' b = some (.lst xs) := k.lst (by rw [off_ne ne]; exact e)
theorem RowOk.lst {K : PySem.W.Frag} {s : Addr} {ns : List Int} {H : Hp} {r : Addr} (h : RowOk K s ns H r) : ∃ xs, H r = some (.lst xs) := by
  obtain ⟨a, b, cc, e, _⟩ := h
  exact ⟨_, e⟩
theorem off_it {r : Addr} {H H' : Hp} {v : V} {ms : List Nat} {xs : List V} (k : Kp (off r H) H') (hr : H r = some (.lst xs)) (h : IT H v ms) : IT H' v ms := (it_off h fun ys z => by rw [hr] at z; cases z).kp k
theorem RowOk.put {K : PySem.W.Frag} {s : Addr} {ns : List Int} {H0 H : Hp} {r D : Addr} {o : HO} (h0 : RowOk K s ns H0 r) (h : RowOk K s ns H r) (k : Kp (off r H0) H) (hD : off r H0 D = none) (ne : D ≠ r) : RowOk K s ns (upd H D o) r := by
  obtain ⟨_, _, _, _, q, _, _⟩ := h0
  obtain ⟨a, b, cc, e, _, h1, h2⟩ := h
  exact ⟨a, b, cc, by rw [upd_ne (Ne.symm ne)]; exact e, (kp_to_off (k.put hD) off_same).sqL q, h1, h2⟩
/-- a library the law draws -/
structure Drawn (t : Nat) (l : List (List Nat)) : Prop where
  t1 : 1 ≤ t
  t3 : t ≤ 3
  l1 : 1 ≤ l.length
  l6 : l.length ≤ 6
  row : ∀ x ∈ l, ∃ m, m < 2 ^ t ∧ x = tabletOf m
section
variable {P : Program} {w : World} {K : PySem.W.Frag} {mg : Str → Option Value} {base : Heap} {f c : Addr} {fd : FuncData}
abbrev st_law_pick : Stmt := topS 49
abbrev N_law_pick : List Str := ["_law_row", "_law_things"]
theorem sc_law_pick : FnScope N_law_pick ["_law_row", "_law_things"] (defScope st_law_pick) := ⟨rfl, rfl, rfl, by decide +kernel, rfl, by decide +kernel, by decide +kernel⟩
def sp_law_pick (K : PySem.W.Frag) : Sp := fun vs H Q _ => vs.length = 2 ∧ ∃ (s : Addr) (ns : List Int) (r t : Addr) (xs : List V), vs = [.ref r, .ref t] ∧ RowOk K s ns H r ∧ H t = some (.lst xs) ∧ t ≠ r ∧ 1 ≤ xs.length ∧ xs.length ≤ 1000 ∧ ∀ H' (i : Nat) x, Kp (off r H) H' → RowOk K s ns H' r → xs[i]? = some x → Q x H'
theorem cal_law_pick (F : FunC K mg "_law_pick" st_law_pick f fd c) (B : Bi mg) (C_law_taken : Cal P w K mg base 1 "_law_taken" ["_law_row", "_law_many"] (sp_law_taken K)) : Cal P w K mg base 2 "_law_pick" ["_law_row", "_law_things"] (sp_law_pick K) := by
  refine F.cal sc_law_pick (fun _ _ _ _ h => h.1) (fun _ _ _ _ _ _ us hl => match us, hl with | [_, _], _ => rfl) (fun A outer s H vs Q hr h => ?_) (fun _ _ _ _ h => h)
  refine ⟨_, (pss_one (ps_ret (pe_ix (ix_listK K) (pv 1) (pe_cal C_law_taken hr (by decide) (by rfl) (pa_cons (pv 0) (pa_cons (pe_callB (call_len_seqK K) (by rfl) B.len PySem.boot_len (pa_cons (pv 1) pa_nil)) pa_nil))) (fun _ _ => rfl)))), ?_⟩
  obtain ⟨_, sa, ns, r, t, xs, rfl, ro, et, ne, l1, l2, k⟩ := h
  refine ⟨_, rfl, _, rfl, _, rfl, t, _, rfl, .inl (SqL.of et), rfl, sa, ns, r, xs.length, rfl, ro, l1, l2, ?_⟩
  intro H' i kk ro' hi
  exact ⟨t, xs, i, _, rfl, rfl, SqL.of (off_lst kk ne et), atI_nat (List.getElem?_eq_getElem hi), k H' i _ kk ro' (List.getElem?_eq_getElem hi)⟩
abbrev st_law_library : Stmt := topS 51
abbrev N_law_library : List Str := ["_law_row", "_law_texts", "_law_many", "_law_tablets", "_law_k", "_law_mask_here"]
theorem sc_law_library : FnScope N_law_library ["_law_row"] (defScope st_law_library) := ⟨rfl, rfl, rfl, by decide +kernel, rfl, by decide +kernel, by decide +kernel⟩
def sp_law_library (K : PySem.W.Frag) : Sp := fun vs H Q _ => vs.length = 1 ∧ ∃ (s : Addr) (ns : List Int) (r : Addr), vs = [.ref r] ∧ RowOk K s ns H r ∧ ∀ H' v t l, Kp (off r H) H' → RowOk K s ns H' r → Lib H' v t l → Drawn t l → Q v H'
theorem cal_law_library (F : FunC K mg "_law_library" st_law_library f fd c) (B : Bi mg) (C_law_taken : Cal P w K mg base 1 "_law_taken" ["_law_row", "_law_many"] (sp_law_taken K)) (C_law_pick : Cal P w K mg base 2 "_law_pick" ["_law_row", "_law_things"] (sp_law_pick K)) (C_law_mask : Cal P w K mg base 1 "_law_mask" ["_law_tablet_here"] sp_mask_of) (C_law_tablet : Cal P w K mg base 1 "_law_tablet" ["_law_mask_here"] sp_tablet_of) : Cal P w K mg base 3 "_law_library" ["_law_row"] (sp_law_library K) := by
  refine F.cal sc_law_library (fun _ _ _ _ h => h.1) (fun _ _ _ _ _ _ us hl => match us, hl with | [_], _ => rfl) (fun A outer s H vs Q hr h => ?_) (fun _ _ _ _ h => h)
  refine ⟨_, (pss_cons (ps_set (i := 1) sc_law_library.nd rfl (Or.inl rfl) (pe_op op_add pe_int (pe_cal C_law_taken hr (by decide) (by rfl) (pa_cons (pv 0) (pa_cons pe_int pa_nil)))))
  (pss_cons (ps_set (i := 2) sc_law_library.nd rfl (Or.inl rfl) (pe_op op_add pe_int (pe_cal C_law_taken hr (by decide) (by rfl) (pa_cons (pv 0) (pa_cons pe_int pa_nil)))))
  (pss_cons (ps_set (i := 3) sc_law_library.nd rfl (Or.inl rfl) (pe_lst pa_nil))
  (pss_cons (ps_for PassesOwn.never rfl (pi_range1 (by rfl) B.range (pa_cons (pv 2) pa_nil)) (pg_name (i := 4) sc_law_library.nd rfl (by first | exact Or.inl rfl | exact Or.inr rfl)) (pss_cons (ps_set (i := 5) sc_law_library.nd rfl (Or.inl rfl) (pe_ifExp (PW.pt (pw_or (pt_cmpR op_gt (pe_cal C_law_taken hr (by decide) (by rfl) (pa_cons (pv 0) (pa_cons pe_int pa_nil))) pe_int (nomark _)) (pw_or1 (pt_cmpR (op_eqDK K (hu := hr.units)) (pv 3) (pe_lst pa_nil) (nomark _))))) (pe_cal C_law_taken hr (by decide) (by rfl) (pa_cons (pv 0) (pa_cons (pe_op op_shlNN pe_int (pv 1)) pa_nil))) (pe_cal C_law_mask hr (by decide) (by rfl) (pa_cons (pe_cal C_law_pick hr (by decide) (by rfl) (pa_cons (pv 0) (pa_cons (pv 3) pa_nil))) pa_nil))))
  (pss_one (ps_expr (pe_bm PySem.F.plainAttrs_list PySem.F.slot_list_append PySem.F.type_list_append mt_append (pv 3) (pa_cons (pe_cal C_law_tablet hr (by decide) (by rfl) (pa_cons (pv 5) pa_nil)) pa_nil))))))
  (pss_one (ps_ret (pe_tup (pa_cons (pv 1) (pa_cons (pe_callTy (call_tuple_ofK K) (by rfl) B.tuple boot_tuple (pa_cons (pv 3) pa_nil)) pa_nil))))))))), ?_⟩
  obtain ⟨_, sa, ns, r, rfl, ro, k⟩ := h
  refine ⟨_, rfl, rfl, sa, ns, r, 3, rfl, ro, by decide, by decide, ?_⟩
  intro H1 i1 k1 ro1 hi1
  refine ⟨_, _, rfl, rfl, ?_⟩
  refine ⟨_, rfl, rfl, sa, ns, r, 6, rfl, ro1, by decide, by decide, ?_⟩
  intro H2 i2 k2 ro2 hi2
  refine ⟨_, _, rfl, rfl, ?_⟩
  refine ⟨Nat.zero_le _, fun D hD => ?_⟩
  have tr : ∀ {A B C : Hp}, Kp (off r A) B → Kp (off r B) C → Kp (off r A) C := fun a b => (kp_to_off a off_same).trans b
  have nDr : D ≠ r := by
    obtain ⟨xs, e⟩ := ro2.lst
    rintro rfl
    rw [e] at hD
    cases hD
  have k12 := tr k1 k2
  have hD0 : off r H D = none := by
    have := (k12).free hD
    exact this
  have kD : Kp H2 (upd H2 D (.lst [])) := Kp.new hD
  refine ⟨_, rfl, ((1 : Int) + (i2 : Int)), rfl, by omega, by omega, ?_⟩
  rw [show ((1 : Int) + (i2 : Int)).toNat = i2 + 1 by omega]
  refine for_range (lo := 0) (n := i2 + 1) (fun i σ H' => Kp (off r H) H' ∧ RowOk K sa ns H' r ∧ ∃ acc l o4 o5, σ = [some (.ref r), some (.int (1 + (i1 : Int))), some (.int (1 + (i2 : Int))), some (.ref D), o4, o5] ∧ H' D = some (.lst acc) ∧ ITs H' acc l ∧ l.length = i ∧ ∀ x ∈ l, ∃ m, m < 2 ^ (i1 + 1) ∧ x = tabletOf m) ⟨k12.trans kD, ro2.kp kD, [], [], _, _, rfl, upd_same, .nil, rfl, by simp⟩ ?_ ?_
  · rintro i σ H3 hi ⟨k3, ro3, acc, l, o4, o5, rfl, hD3, its3, ll, ok⟩
    have p8 : 2 ^ (i1 + 1) ≤ 8 := Nat.le_trans (Nat.pow_le_pow_right (by decide) (by omega : i1 + 1 ≤ 3)) (by decide)
    have fin : ∀ H6 u m, Kp (off r H3) H6 → RowOk K sa ns H6 r → m < 2 ^ (i1 + 1) → IT H6 u (tabletOf m) → ∃ l0 xs y0, V.ref D = .ref l0 ∧ [u] = [y0] ∧ H6 l0 = some (.lst xs) ∧ xs.length < sizeLine ∧ (Kp (off r H) (upd H6 l0 (.lst (xs ++ [y0]))) ∧ RowOk K sa ns (upd H6 l0 (.lst (xs ++ [y0]))) r ∧ ∃ acc l o4 o5, [some (V.ref r), some (.int (1 + (i1 : Int))), some (.int (1 + (i2 : Int))), some (.ref D), some (.int (0 + (i : Int))), some (nV m)] = [some (.ref r), some (.int (1 + (i1 : Int))), some (.int (1 + (i2 : Int))), some (.ref D), o4, o5] ∧ upd H6 l0 (.lst (xs ++ [y0])) D = some (.lst acc) ∧ ITs (upd H6 l0 (.lst (xs ++ [y0]))) acc l ∧ l.length = i + 1 ∧ ∀ x ∈ l, ∃ m, m < 2 ^ (i1 + 1) ∧ x = tabletOf m) := by
      intro H6 u m k6 ro6 hm iu
      have hD6 := off_lst k6 nDr hD3
      obtain ⟨ys, er3⟩ := ro3.lst
      have its6 : ITs H6 acc l := Paired.mono (fun _ _ q => off_it k6 er3 q) its3
      have t6 : Tk H6 (upd H6 D (.lst (acc ++ [u]))) := Tk.lst hD6
      refine ⟨D, acc, u, rfl, rfl, hD6, sl (by rw [its3.length]; omega), (tr k3 k6).put hD0, ro.put ro6 (tr k3 k6) hD0 nDr, acc ++ [u], l ++ [tabletOf m], _, _, rfl, upd_same, Paired.snoc (its6.tk t6) (iu.tk t6), by rw [List.length_append, ll]; rfl, fun x hx => ?_⟩
      rcases List.mem_append.mp hx with hx | hx
      · exact ok x hx
      · exact ⟨m, hm, List.mem_singleton.mp hx⟩
    refine ⟨_, rfl, rfl, sa, ns, r, 4, rfl, ro3, by decide, by decide, ?_⟩
    intro H4 i4 k4 ro4 hi4
    have draw : ∀ {H5 : Hp}, Kp (off r H3) H5 → RowOk K sa ns H5 r → ∀ Q' : VK, (∀ H6 i6, Kp (off r H3) H6 → RowOk K sa ns H6 r → i6 < 2 ^ (i1 + 1) → Q' (nV i6) H6) → tCall (sp_law_taken K) [] E0 (tCons (tVar 0) (tCons (tOp (fun x y H Q => ∃ k, x = V.int 1 ∧ y = nV k ∧ k ≤ 1000 ∧ Q (nV (1 <<< k)) H) (tC (V.int 1)) (tVar 1)) tNil)) [some (V.ref r), some (.int (1 + (i1 : Int))), some (.int (1 + (i2 : Int))), some (.ref D), some (.int (0 + (i : Int))), o5] H5 Q' := by
      intro H5 k5 ro5 Q' q
      refine ⟨_, rfl, _, rfl, i1 + 1, rfl, by show V.int (1 + (i1 : Int)) = V.int ((i1 + 1 : Nat) : Int); rw [Int.natCast_add, Int.add_comm]; rfl, by omega, rfl, sa, ns, r, 1 <<< (i1 + 1), rfl, ro5, ?_, ?_, ?_⟩
      · rw [Nat.shiftLeft_eq, Nat.one_mul]
        exact Nat.pow_pos (by decide)
      · rw [Nat.shiftLeft_eq, Nat.one_mul]
        omega
      · intro H6 i6 k6 ro6 hi6
        rw [Nat.shiftLeft_eq, Nat.one_mul] at hi6
        exact q H6 i6 (tr k5 k6) ro6 hi6
    refine ⟨_, _, rfl, rfl, _, rfl, ?_⟩
    have after : ∀ {H6 : Hp} {m : Nat}, Kp (off r H3) H6 → RowOk K sa ns H6 r → m < 2 ^ (i1 + 1) → tyV K "list" (.ref D) H6 := fun k6 _ _ => .inl ⟨rfl, _, SqL.of (off_lst k6 nDr hD3)⟩
    refine ite_b (fun hb => ?_) fun hb => ?_
    · refine ifT rfl (draw k4 ro4 _ fun H6 i6 k6 ro6 hi6 => ?_)
      exact ⟨_, rfl, after k6 ro6 hi6, _, rfl, rfl, i6, rfl, fun u H7 k7 iu => fin H7 u i6 (k6.trans k7) (ro6.kp k7) hi6 iu⟩
    · have hD4 := off_lst k4 nDr hD3
      obtain ⟨ys, er3⟩ := ro3.lst
      have its4 : ITs H4 acc l := Paired.mono (fun _ _ q => off_it k4 er3 q) its3
      refine ⟨_, rfl, Nat.zero_le _, fun e he => eq_nil (a := D) (b := e) (by rw [upd_ne (ne_of_none hD4 he)]; exact hD4) (ITs.tk its4 (Tk.new he)) upd_same ⟨_, rfl, ?_⟩⟩
      have k5 : Kp H4 (upd H4 e (.lst [])) := Kp.new he
      have k45 := k4.trans k5
      have ro5 := ro4.kp k5
      have its5 : ITs (upd H4 e (.lst [])) acc l := its4.tk k5.tk
      have hD5 := k5.lst hD4
      generalize upd H4 e (.lst []) = H5 at *
      refine ite_b (fun hb2 => ?_) fun hb2 => ?_
      · refine draw k45 ro5 _ fun H6 i6 k6 ro6 hi6 => ?_
        exact ⟨_, rfl, after k6 ro6 hi6, _, rfl, rfl, i6, rfl, fun u H7 k7 iu => fin H7 u i6 (k6.trans k7) (ro6.kp k7) hi6 iu⟩
      · have lne : l ≠ [] := by
          rintro rfl
          cases hb2
        have l0 : 1 ≤ acc.length := by
          rw [its5.length]
          exact List.length_pos_iff.mpr lne
        refine ⟨_, rfl, _, rfl, rfl, sa, ns, r, D, acc, rfl, ro5, hD5, nDr, l0, by rw [its5.length]; omega, ?_⟩
        intro H6 j x k6 ro6 hx
        obtain ⟨ms, hms, itx⟩ := Paired.at' its5 hx
        obtain ⟨m, hm, rfl⟩ := ok ms (List.mem_of_getElem? hms)
        obtain ⟨zs, er5⟩ := ro5.lst
        have itx6 := off_it k6 er5 itx
        have k36 : Kp (off r H3) H6 := tr k45 k6
        have m8 : m < 8 := by omega
        have sm : Sml (tabletOf m) := by
          refine ⟨?_, fun k hk => ?_⟩
          · have := List.length_filter_le (fun t => (m >>> t) &&& 1 != 0) (List.range 3)
            rw [List.length_range] at this
            exact Nat.le_trans this (by decide)
          · have := List.mem_range.mp (List.mem_filter.mp hk).1
            omega
        refine ⟨rfl, tabletOf m, ⟨x, rfl, itx6, sm⟩, ?_⟩
        rintro _ H7 k7 rfl
        rw [mask_tab m m8]
        exact ⟨_, rfl, after (m := m) (k36.trans k7) (ro6.kp k7) hm, _, rfl, rfl, m, rfl, fun u H8 k8 iu => fin H8 u m ((k36.trans k7).trans k8) ((ro6.kp k7).kp k8) hm iu⟩
  · rintro σ H3 ⟨k3, ro3, acc, l, o4, o5, rfl, hD3, its3, ll, ok⟩
    refine ⟨_, rfl, _, rfl, D, _, rfl, .inl ⟨SqL.of hD3, fun q hq => ?_⟩⟩
    refine ⟨by show 2 ≤ sizeLine; decide, fun p hp => ?_⟩
    have kq : Kp H3 (upd H3 q (.tup acc)) := Kp.new hq
    have kp : Kp (upd H3 q (.tup acc)) (upd (upd H3 q (.tup acc)) p (.tup [.int (1 + (i1 : Int)), .ref q])) := Kp.new hp
    refine k _ _ (i1 + 1) l ((k3.trans kq).trans kp) ((ro3.kp kq).kp kp) ⟨p, q, acc, rfl, ?_, kp.tup upd_same, ITs.tk its3 (kq.tk.trans kp.tk)⟩ ⟨by omega, by omega, by omega, by omega, ok⟩
    rw [upd_same]
    show some (HO.tup [V.int (1 + (i1 : Int)), V.ref q]) = some (HO.tup [V.int ((i1 + 1 : Nat) : Int), V.ref q])
    rw [Int.natCast_add, Int.add_comm]
    rfl
end
end MX
end

section
set_option Elab.async false
set_option linter.all false
set_option maxRecDepth 100000
set_option maxHeartbeats 4000000
namespace MX
open PySem PySem.Spec PyProof.Rows L2
/-! ### written values -/
section
variable {Pre : Hp → Prop} {σ : L2.St}
/-- the expression gives a value that reads as F says, whatever else it makes -/
def Gv (Pre : Hp → Prop) (σ : L2.St) (te : TE) (F : Hp → V → Prop) : Prop := ∀ (H : Hp) (Q : VK), Pre H → (∀ v H', Kp H H' → F H' v → Q v H') → te σ H Q
def Ga (Pre : Hp → Prop) (σ : L2.St) (ta : TA) (F : Hp → List V → Prop) : Prop := ∀ (H : Hp) (Q : List V → Hp → Prop), Pre H → (∀ vs H', Kp H H' → F H' vs → Q vs H') → ta σ H Q
theorem gv_int (n : Nat) : Gv Pre σ (tC (.int (n : Int))) fun _ v => v = nV n := fun H Q _ q => q _ H (Kp.refl H) rfl
theorem gv_var {i : Nat} {v : V} {F : Hp → V → Prop} (h : σ[i]? = some (some v)) (f : ∀ H, Pre H → F H v) : Gv Pre σ (tVar i) F := fun H Q p q => ⟨v, h, q v H (Kp.refl H) (f H p)⟩
theorem ga_nil {β : Type} {F : Hp → V → β → Prop} : Ga Pre σ tNil fun H vs => Paired (F H) vs [] := fun H Q _ q => q [] H (Kp.refl H) .nil
theorem ga_cons {β : Type} {F : Hp → V → β → Prop} (S : Stab F) (sp : ∀ H H', Kp H H' → Pre H → Pre H') {te : TE} {ta : TA} {b : β} {l : List β} (h1 : Gv Pre σ te fun H v => F H v b) (h2 : Ga Pre σ ta fun H vs => Paired (F H) vs l) : Ga Pre σ (tCons te ta) fun H vs => Paired (F H) vs (b :: l) := by
  intro H Q p q
  refine h1 H _ p fun v H1 k1 f1 => ?_
  refine h2 H1 _ (sp _ _ k1 p) fun vs H2 k2 f2 => ?_
  exact q (v :: vs) H2 (k1.trans k2) (.cons (S _ _ _ _ k2.tk f1) f2)
theorem gv_it {ta : TA} {l : List Nat} (h : Ga Pre σ ta fun _ vs => Paired (fun v (n : Nat) => v = nV n) vs l) (hz : l.length ≤ 1000) : Gv Pre σ (tTup ta) fun H v => IT H v l := by
  intro H Q p q
  refine h H _ p fun vs H1 k1 f1 => ?_
  obtain rfl := nv_vals f1
  refine ⟨by rw [List.length_map, sizeLine_eq]; omega, fun a ha => q _ _ (k1.trans (Kp.new ha)) ⟨a, rfl, upd_same⟩⟩
theorem gv_lib {ta : TA} {t : Nat} {l : List (List Nat)} (h : Ga Pre σ ta fun H vs => ITs H vs l) (hz : l.length ≤ 1000) : Gv Pre σ (tTup (tCons (tC (.int (t : Int))) (tCons (tTup ta) tNil))) fun H v => Lib H v t l := by
  intro H Q p q
  refine h H _ p fun vs H1 k1 f1 => ?_
  refine ⟨by rw [f1.length, sizeLine_eq]; omega, fun a ha => ⟨by show 2 ≤ sizeLine; decide, fun b hb => ?_⟩⟩
  have ka : Kp H1 (upd H1 a (.tup vs)) := Kp.new ha
  have kb : Kp (upd H1 a (.tup vs)) (upd (upd H1 a (.tup vs)) b (.tup [.int (t : Int), .ref a])) := Kp.new hb
  exact q _ _ ((k1.trans ka).trans kb) ⟨b, a, vs, rfl, upd_same, kb.tup upd_same, f1.tk (ka.tk.trans kb.tk)⟩
theorem seq_gv {te : TE} {F : Hp → V → Prop} {i : Nat} {u : TS} {D : Ends} {H : Hp} (g : Gv Pre σ te F) (p : Pre H) (k : ∀ v H', Kp H H' → F H' v → u D (σ.set i (some v)) H') : tSeq (tAsg te (gName i)) u D σ H := g H _ p fun v H' k1 f => k v H' k1 f
abbrev LibX (H : Hp) (v : V) (x : Nat × List (List Nat)) : Prop := Lib H v x.1 x.2
def LL (H : Hp) (v : V) (l : List (Nat × List (List Nat))) : Prop := ∃ a vs, v = .ref a ∧ H a = some (.lst vs) ∧ Paired (LibX H) vs l
theorem LL.kp {H H' : Hp} {v : V} {l : List (Nat × List (List Nat))} (h : LL H v l) (k : Kp H H') : LL H' v l := by
  obtain ⟨a, vs, e, q, p⟩ := h
  exact ⟨a, vs, e, k.lst q, Paired.mono (fun _ _ z => stab_lib _ _ _ _ k.tk z) p⟩
theorem gv_libs {ta : TA} {l : List (Nat × List (List Nat))} (h : Ga Pre σ ta fun H vs => Paired (LibX H) vs l) (hz : l.length ≤ 1000) : Gv Pre σ (tLst ta) fun H v => LL H v l := by
  intro H Q p q
  refine h H _ p fun vs H1 k1 f1 => ?_
  refine ⟨by rw [f1.length, sizeLine_eq]; omega, fun a ha => ?_⟩
  have ka : Kp H1 (upd H1 a (.lst vs)) := Kp.new ha
  exact q _ _ (k1.trans ka) ⟨a, vs, rfl, upd_same, Paired.mono (fun _ _ z => stab_lib _ _ _ _ ka.tk z) f1⟩
theorem gv_cat {te tu : TE} {l m : List (Nat × List (List Nat))} (sp : ∀ H H', Kp H H' → Pre H → Pre H') (h1 : Gv Pre σ te fun H v => LL H v l) (h2 : Gv Pre σ tu fun H v => LL H v m) (hz : l.length + m.length ≤ 1000) : Gv Pre σ (tOp rCat te tu) fun H v => LL H v (l ++ m) := by
  intro H Q p q
  refine h1 H _ p fun v H1 k1 f1 => ?_
  refine h2 H1 _ (sp _ _ k1 p) fun u H2 k2 f2 => ?_
  obtain ⟨a, vs, rfl, ea, pa⟩ := f1.kp k2
  obtain ⟨b, ws, rfl, eb, pb⟩ := f2
  refine ⟨a, b, vs, ws, rfl, rfl, ea, eb, by rw [pa.length, pb.length, sizeLine_eq]; omega, fun c hc => ?_⟩
  have kc : Kp H2 (upd H2 c (.lst (vs ++ ws))) := Kp.new hc
  exact q _ _ ((k1.trans k2).trans kc) ⟨c, _, rfl, upd_same, Paired.app (Paired.mono (fun _ _ z => stab_lib _ _ _ _ kc.tk z) pa) (Paired.mono (fun _ _ z => stab_lib _ _ _ _ kc.tk z) pb)⟩
end
section
variable {P : Program} {w : World} {K : PySem.W.Frag} {mg : Str → Option Value} {base : Heap} {f c : Addr} {fd : FuncData}
abbrev st_law_known : Stmt := topS 52
abbrev N_law_known : List Str := ["_law_row", "_law_a", "_law_b", "_law_c", "_law_rows"]
theorem sc_law_known : FnScope N_law_known ["_law_row"] (defScope st_law_known) := ⟨rfl, rfl, rfl, by decide +kernel, rfl, by decide +kernel, by decide +kernel⟩
theorem lib_off {r : Addr} {H H' : Hp} {v : V} {t : Nat} {l : List (List Nat)} {xs : List V} (k : Kp (off r H) H') (hr : H r = some (.lst xs)) (h : Lib H v t l) : Lib H' v t l := by
  obtain ⟨a, b, vs, rfl, ea, eb, p⟩ := h
  have ne : ∀ {z : Addr} {ys : List V}, H z = some (.tup ys) → z ≠ r := by
    rintro z ys e rfl
    rw [hr] at e
    cases e
  exact ⟨a, b, vs, rfl, k.tup (by rw [off_ne (ne ea)]; exact ea), k.tup (by rw [off_ne (ne eb)]; exact eb), Paired.mono (fun _ _ z => off_it k hr z) p⟩
theorem drawn_by {t : Nat} {l : List (List Nat)} (h : (decide (1 ≤ t) && decide (t ≤ 3) && decide (1 ≤ l.length) && decide (l.length ≤ 6) && l.all fun x => (List.range (2 ^ t)).any fun m => decide (x = tabletOf m)) = true) : Drawn t l := by
  simp only [Bool.and_eq_true, decide_eq_true_eq] at h
  obtain ⟨⟨⟨⟨h1, h2⟩, h3⟩, h4⟩, h5⟩ := h
  refine ⟨h1, h2, h3, h4, fun x hx => ?_⟩
  obtain ⟨m, hm, e⟩ := List.any_eq_true.mp (List.all_eq_true.mp h5 x hx)
  exact ⟨m, List.mem_range.mp hm, of_decide_eq_true e⟩
theorem cal_law_known (F : FunC K mg "_law_known" st_law_known f fd c) (B : Bi mg) (C_law_pick : Cal P w K mg base 2 "_law_pick" ["_law_row", "_law_things"] (sp_law_pick K)) (C_law_library : Cal P w K mg base 3 "_law_library" ["_law_row"] (sp_law_library K)) : Cal P w K mg base 4 "_law_known" ["_law_row"] (sp_law_library K) := by
  refine F.cal sc_law_known (fun _ _ _ _ h => h.1) (fun _ _ _ _ _ _ us hl => match us, hl with | [_], _ => rfl) (fun A outer s H vs Q hr h => ?_) (fun _ _ _ _ h => h)
  refine ⟨_, (pss_cons (ps_asg (pe_tup (pa_cons (pe_tup (pa_cons pe_int pa_nil)) (pa_cons (pe_tup (pa_cons pe_int pa_nil)) (pa_cons (pe_tup (pa_cons pe_int pa_nil)) pa_nil)))) (pg_tupK K (n := 3) (hc := rfl) (h := (pgs_cons (pg_name (i := 1) sc_law_known.nd rfl (by first | exact Or.inl rfl | exact Or.inr rfl)) (pgs_cons (pg_name (i := 2) sc_law_known.nd rfl (by first | exact Or.inl rfl | exact Or.inr rfl)) (pgs_cons (pg_name (i := 3) sc_law_known.nd rfl (by first | exact Or.inl rfl | exact Or.inr rfl)) pgs_nil))))))
  (pss_cons (ps_set (i := 4) sc_law_known.nd rfl (Or.inl rfl) (pe_lst (pa_cons (pe_tup (pa_cons pe_int (pa_cons (pe_tup (pa_cons (pv 1) (pa_cons (pv 1) pa_nil))) pa_nil))) (pa_cons (pe_tup (pa_cons pe_int (pa_cons (pe_tup (pa_cons (pv 1) (pa_cons (pv 1) (pa_cons (pv 1) pa_nil)))) pa_nil))) (pa_cons (pe_tup (pa_cons pe_int (pa_cons (pe_tup (pa_cons (pv 1) (pa_cons (pv 2) (pa_cons (pe_tup (pa_cons pe_int (pa_cons pe_int pa_nil))) pa_nil)))) pa_nil))) (pa_cons (pe_tup (pa_cons pe_int (pa_cons (pe_tup (pa_cons (pv 1) (pa_cons (pv 1) (pa_cons (pv 2) (pa_cons (pv 2) pa_nil))))) pa_nil))) (pa_cons (pe_tup (pa_cons pe_int (pa_cons (pe_tup (pa_cons (pv 1) (pa_cons (pv 2) (pa_cons (pe_tup (pa_cons pe_int (pa_cons pe_int pa_nil))) (pa_cons (pe_tup (pa_cons pe_int (pa_cons pe_int pa_nil))) pa_nil))))) pa_nil))) pa_nil)))))))
  (pss_cons (ps_set (i := 4) sc_law_known.nd rfl (Or.inl rfl) (pe_op op_cat (pv 4) (pe_lst (pa_cons (pe_tup (pa_cons pe_int (pa_cons (pe_tup (pa_cons (pv 1) (pa_cons (pv 2) (pa_cons (pv 3) (pa_cons (pe_tup (pa_cons pe_int (pa_cons pe_int (pa_cons pe_int pa_nil)))) (pa_cons (pe_tup pa_nil) pa_nil)))))) pa_nil))) pa_nil))))
  (pss_cons (ps_set (i := 4) sc_law_known.nd rfl (Or.inl rfl) (pe_op op_cat (pv 4) (pe_lst (pa_cons (pe_tup (pa_cons pe_int (pa_cons (pe_tup (pa_cons (pv 1) (pa_cons (pv 2) (pa_cons (pv 3) (pa_cons (pe_tup (pa_cons pe_int (pa_cons pe_int (pa_cons pe_int pa_nil)))) pa_nil))))) pa_nil))) (pa_cons (pe_tup (pa_cons pe_int (pa_cons (pe_tup (pa_cons (pv 1) (pa_cons (pv 2) (pa_cons (pe_tup (pa_cons pe_int (pa_cons pe_int pa_nil))) (pa_cons (pv 1) (pa_cons (pv 2) pa_nil)))))) pa_nil))) (pa_cons (pe_tup (pa_cons pe_int (pa_cons (pe_tup (pa_cons (pv 1) (pa_cons (pv 1) (pa_cons (pv 1) (pa_cons (pv 1) pa_nil))))) pa_nil))) pa_nil))))))
  (pss_cons (ps_set (i := 4) sc_law_known.nd rfl (Or.inl rfl) (pe_op op_cat (pv 4) (pe_lst (pa_cons (pe_tup (pa_cons pe_int (pa_cons (pe_tup (pa_cons (pv 1) (pa_cons (pv 2) (pa_cons (pe_tup (pa_cons pe_int (pa_cons pe_int pa_nil))) (pa_cons (pv 1) (pa_cons (pv 2) (pa_cons (pe_tup (pa_cons pe_int (pa_cons pe_int pa_nil))) pa_nil))))))) pa_nil))) (pa_cons (pe_tup (pa_cons pe_int (pa_cons (pe_tup (pa_cons (pv 1) (pa_cons (pv 2) (pa_cons (pe_tup (pa_cons pe_int (pa_cons pe_int pa_nil))) (pa_cons (pv 3) (pa_cons (pv 3) pa_nil)))))) pa_nil))) pa_nil)))))
  (pss_one (ps_ret (pe_cal C_law_pick hr (by decide) (by rfl) (pa_cons (pv 0) (pa_cons (pe_op op_cat (pv 4) (pe_lst (pa_cons (pe_cal C_law_library hr (by decide) (by rfl) (pa_cons (pv 0) pa_nil)) (pa_cons (pe_cal C_law_library hr (by decide) (by rfl) (pa_cons (pv 0) pa_nil)) pa_nil)))) pa_nil)))))))))), ?_⟩
  obtain ⟨_, sa, ns, r, rfl, ro, k⟩ := h
  refine ⟨by show 1 ≤ sizeLine; decide, fun a ha => ⟨by show 1 ≤ sizeLine; decide, fun b hb => ⟨by show 1 ≤ sizeLine; decide, fun cc hc => ⟨by show 3 ≤ sizeLine; decide, fun p hp => ?_⟩⟩⟩⟩
  have k1 : Kp H (upd H a (.tup [.int 0])) := Kp.new ha
  have k2 : Kp (upd H a (.tup [.int 0])) (upd (upd H a (.tup [.int 0])) b (.tup [.int 1])) := Kp.new hb
  have k3 : Kp (upd (upd H a (.tup [.int 0])) b (.tup [.int 1])) (upd (upd (upd H a (.tup [.int 0])) b (.tup [.int 1])) cc (.tup [.int 2])) := Kp.new hc
  have k4 : Kp (upd (upd (upd H a (.tup [.int 0])) b (.tup [.int 1])) cc (.tup [.int 2])) (upd (upd (upd (upd H a (.tup [.int 0])) b (.tup [.int 1])) cc (.tup [.int 2])) p (.tup [.ref a, .ref b, .ref cc])) := Kp.new hp
  refine ⟨p, _, rfl, SqT.of upd_same, rfl, _, _, rfl, _, _, rfl, _, _, rfl, rfl, ?_⟩
  have ea : IT (upd (upd (upd (upd H a (.tup [.int 0])) b (.tup [.int 1])) cc (.tup [.int 2])) p (.tup [.ref a, .ref b, .ref cc])) (.ref a) [0] := ⟨a, rfl, k4.tup (k3.tup (k2.tup upd_same))⟩
  have eb : IT (upd (upd (upd (upd H a (.tup [.int 0])) b (.tup [.int 1])) cc (.tup [.int 2])) p (.tup [.ref a, .ref b, .ref cc])) (.ref b) [1] := ⟨b, rfl, k4.tup (k3.tup upd_same)⟩
  have ec : IT (upd (upd (upd (upd H a (.tup [.int 0])) b (.tup [.int 1])) cc (.tup [.int 2])) p (.tup [.ref a, .ref b, .ref cc])) (.ref cc) [2] := ⟨cc, rfl, k4.tup upd_same⟩
  have kH := ((k1.trans k2).trans k3).trans k4
  generalize (upd (upd (upd (upd H a (.tup [.int 0])) b (.tup [.int 1])) cc (.tup [.int 2])) p (.tup [.ref a, .ref b, .ref cc])) = H1 at *
  have sp : ∀ {v : V} {l : List (Nat × List (List Nat))} X Y, Kp X Y → ((IT X (.ref a) [0] ∧ IT X (.ref b) [1] ∧ IT X (.ref cc) [2]) ∧ (l = [] ∨ LL X v l)) → ((IT Y (.ref a) [0] ∧ IT Y (.ref b) [1] ∧ IT Y (.ref cc) [2]) ∧ (l = [] ∨ LL Y v l)) := fun X Y k h => ⟨⟨h.1.1.kp k, h.1.2.1.kp k, h.1.2.2.kp k⟩, h.2.imp id fun z => z.kp k⟩
  refine seq_gv (Pre := fun X => (IT X (.ref a) [0] ∧ IT X (.ref b) [1] ∧ IT X (.ref cc) [2]) ∧ ([] = [] ∨ LL X .non [])) (F := fun X v => LL X v [(1, [[0], [0]]), (1, [[0], [0], [0]]), (2, [[0], [1], [0, 1]]), (2, [[0], [0], [1], [1]]), (2, [[0], [1], [0, 1], [0, 1]])]) (gv_libs (l := [(1, [[0], [0]]), (1, [[0], [0], [0]]), (2, [[0], [1], [0, 1]]), (2, [[0], [0], [1], [1]]), (2, [[0], [1], [0, 1], [0, 1]])]) (ga_cons stab_lib sp (gv_lib (t := 1) (l := [[0], [0]]) (ga_cons stab_it sp (gv_var (v := .ref a) rfl fun _ p => p.1.1) (ga_cons stab_it sp (gv_var (v := .ref a) rfl fun _ p => p.1.1) ga_nil)) (by decide)) (ga_cons stab_lib sp (gv_lib (t := 1) (l := [[0], [0], [0]]) (ga_cons stab_it sp (gv_var (v := .ref a) rfl fun _ p => p.1.1) (ga_cons stab_it sp (gv_var (v := .ref a) rfl fun _ p => p.1.1) (ga_cons stab_it sp (gv_var (v := .ref a) rfl fun _ p => p.1.1) ga_nil))) (by decide)) (ga_cons stab_lib sp (gv_lib (t := 2) (l := [[0], [1], [0, 1]]) (ga_cons stab_it sp (gv_var (v := .ref a) rfl fun _ p => p.1.1) (ga_cons stab_it sp (gv_var (v := .ref b) rfl fun _ p => p.1.2.1) (ga_cons stab_it sp (gv_it (l := [0, 1]) (ga_cons stab_nv sp (gv_int 0) (ga_cons stab_nv sp (gv_int 1) ga_nil)) (by decide)) ga_nil))) (by decide)) (ga_cons stab_lib sp (gv_lib (t := 2) (l := [[0], [0], [1], [1]]) (ga_cons stab_it sp (gv_var (v := .ref a) rfl fun _ p => p.1.1) (ga_cons stab_it sp (gv_var (v := .ref a) rfl fun _ p => p.1.1) (ga_cons stab_it sp (gv_var (v := .ref b) rfl fun _ p => p.1.2.1) (ga_cons stab_it sp (gv_var (v := .ref b) rfl fun _ p => p.1.2.1) ga_nil)))) (by decide)) (ga_cons stab_lib sp (gv_lib (t := 2) (l := [[0], [1], [0, 1], [0, 1]]) (ga_cons stab_it sp (gv_var (v := .ref a) rfl fun _ p => p.1.1) (ga_cons stab_it sp (gv_var (v := .ref b) rfl fun _ p => p.1.2.1) (ga_cons stab_it sp (gv_it (l := [0, 1]) (ga_cons stab_nv sp (gv_int 0) (ga_cons stab_nv sp (gv_int 1) ga_nil)) (by decide)) (ga_cons stab_it sp (gv_it (l := [0, 1]) (ga_cons stab_nv sp (gv_int 0) (ga_cons stab_nv sp (gv_int 1) ga_nil)) (by decide)) ga_nil)))) (by decide)) ga_nil))))) (by decide)) ⟨⟨ea, eb, ec⟩, .inl rfl⟩ ?_
  intro d0 H2 m0 e0
  replace ea := ea.kp m0
  replace eb := eb.kp m0
  replace ec := ec.kp m0
  refine seq_gv (Pre := fun X => (IT X (.ref a) [0] ∧ IT X (.ref b) [1] ∧ IT X (.ref cc) [2]) ∧ ([(1, [[0], [0]]), (1, [[0], [0], [0]]), (2, [[0], [1], [0, 1]]), (2, [[0], [0], [1], [1]]), (2, [[0], [1], [0, 1], [0, 1]])] = [] ∨ LL X d0 [(1, [[0], [0]]), (1, [[0], [0], [0]]), (2, [[0], [1], [0, 1]]), (2, [[0], [0], [1], [1]]), (2, [[0], [1], [0, 1], [0, 1]])])) (F := fun X v => LL X v [(1, [[0], [0]]), (1, [[0], [0], [0]]), (2, [[0], [1], [0, 1]]), (2, [[0], [0], [1], [1]]), (2, [[0], [1], [0, 1], [0, 1]]), (3, [[0], [1], [2], [0, 1, 2], []])]) (gv_cat sp (gv_var (v := d0) (F := fun X v => LL X v [(1, [[0], [0]]), (1, [[0], [0], [0]]), (2, [[0], [1], [0, 1]]), (2, [[0], [0], [1], [1]]), (2, [[0], [1], [0, 1], [0, 1]])]) rfl fun _ p => p.2.resolve_left (by intro z; cases z)) (gv_libs (l := [(3, [[0], [1], [2], [0, 1, 2], []])]) (ga_cons stab_lib sp (gv_lib (t := 3) (l := [[0], [1], [2], [0, 1, 2], []]) (ga_cons stab_it sp (gv_var (v := .ref a) rfl fun _ p => p.1.1) (ga_cons stab_it sp (gv_var (v := .ref b) rfl fun _ p => p.1.2.1) (ga_cons stab_it sp (gv_var (v := .ref cc) rfl fun _ p => p.1.2.2) (ga_cons stab_it sp (gv_it (l := [0, 1, 2]) (ga_cons stab_nv sp (gv_int 0) (ga_cons stab_nv sp (gv_int 1) (ga_cons stab_nv sp (gv_int 2) ga_nil))) (by decide)) (ga_cons stab_it sp (gv_it (l := []) ga_nil (by decide)) ga_nil))))) (by decide)) ga_nil) (by decide)) (by decide)) ⟨⟨ea, eb, ec⟩, .inr e0⟩ ?_
  intro d1 H3 m1 e1
  replace ea := ea.kp m1
  replace eb := eb.kp m1
  replace ec := ec.kp m1
  refine seq_gv (Pre := fun X => (IT X (.ref a) [0] ∧ IT X (.ref b) [1] ∧ IT X (.ref cc) [2]) ∧ ([(1, [[0], [0]]), (1, [[0], [0], [0]]), (2, [[0], [1], [0, 1]]), (2, [[0], [0], [1], [1]]), (2, [[0], [1], [0, 1], [0, 1]]), (3, [[0], [1], [2], [0, 1, 2], []])] = [] ∨ LL X d1 [(1, [[0], [0]]), (1, [[0], [0], [0]]), (2, [[0], [1], [0, 1]]), (2, [[0], [0], [1], [1]]), (2, [[0], [1], [0, 1], [0, 1]]), (3, [[0], [1], [2], [0, 1, 2], []])])) (F := fun X v => LL X v [(1, [[0], [0]]), (1, [[0], [0], [0]]), (2, [[0], [1], [0, 1]]), (2, [[0], [0], [1], [1]]), (2, [[0], [1], [0, 1], [0, 1]]), (3, [[0], [1], [2], [0, 1, 2], []]), (3, [[0], [1], [2], [0, 1, 2]]), (2, [[0], [1], [0, 1], [0], [1]]), (1, [[0], [0], [0], [0]])]) (gv_cat sp (gv_var (v := d1) (F := fun X v => LL X v [(1, [[0], [0]]), (1, [[0], [0], [0]]), (2, [[0], [1], [0, 1]]), (2, [[0], [0], [1], [1]]), (2, [[0], [1], [0, 1], [0, 1]]), (3, [[0], [1], [2], [0, 1, 2], []])]) rfl fun _ p => p.2.resolve_left (by intro z; cases z)) (gv_libs (l := [(3, [[0], [1], [2], [0, 1, 2]]), (2, [[0], [1], [0, 1], [0], [1]]), (1, [[0], [0], [0], [0]])]) (ga_cons stab_lib sp (gv_lib (t := 3) (l := [[0], [1], [2], [0, 1, 2]]) (ga_cons stab_it sp (gv_var (v := .ref a) rfl fun _ p => p.1.1) (ga_cons stab_it sp (gv_var (v := .ref b) rfl fun _ p => p.1.2.1) (ga_cons stab_it sp (gv_var (v := .ref cc) rfl fun _ p => p.1.2.2) (ga_cons stab_it sp (gv_it (l := [0, 1, 2]) (ga_cons stab_nv sp (gv_int 0) (ga_cons stab_nv sp (gv_int 1) (ga_cons stab_nv sp (gv_int 2) ga_nil))) (by decide)) ga_nil)))) (by decide)) (ga_cons stab_lib sp (gv_lib (t := 2) (l := [[0], [1], [0, 1], [0], [1]]) (ga_cons stab_it sp (gv_var (v := .ref a) rfl fun _ p => p.1.1) (ga_cons stab_it sp (gv_var (v := .ref b) rfl fun _ p => p.1.2.1) (ga_cons stab_it sp (gv_it (l := [0, 1]) (ga_cons stab_nv sp (gv_int 0) (ga_cons stab_nv sp (gv_int 1) ga_nil)) (by decide)) (ga_cons stab_it sp (gv_var (v := .ref a) rfl fun _ p => p.1.1) (ga_cons stab_it sp (gv_var (v := .ref b) rfl fun _ p => p.1.2.1) ga_nil))))) (by decide)) (ga_cons stab_lib sp (gv_lib (t := 1) (l := [[0], [0], [0], [0]]) (ga_cons stab_it sp (gv_var (v := .ref a) rfl fun _ p => p.1.1) (ga_cons stab_it sp (gv_var (v := .ref a) rfl fun _ p => p.1.1) (ga_cons stab_it sp (gv_var (v := .ref a) rfl fun _ p => p.1.1) (ga_cons stab_it sp (gv_var (v := .ref a) rfl fun _ p => p.1.1) ga_nil)))) (by decide)) ga_nil))) (by decide)) (by decide)) ⟨⟨ea, eb, ec⟩, .inr e1⟩ ?_
  intro d2 H4 m2 e2
  replace ea := ea.kp m2
  replace eb := eb.kp m2
  replace ec := ec.kp m2
  refine seq_gv (Pre := fun X => (IT X (.ref a) [0] ∧ IT X (.ref b) [1] ∧ IT X (.ref cc) [2]) ∧ ([(1, [[0], [0]]), (1, [[0], [0], [0]]), (2, [[0], [1], [0, 1]]), (2, [[0], [0], [1], [1]]), (2, [[0], [1], [0, 1], [0, 1]]), (3, [[0], [1], [2], [0, 1, 2], []]), (3, [[0], [1], [2], [0, 1, 2]]), (2, [[0], [1], [0, 1], [0], [1]]), (1, [[0], [0], [0], [0]])] = [] ∨ LL X d2 [(1, [[0], [0]]), (1, [[0], [0], [0]]), (2, [[0], [1], [0, 1]]), (2, [[0], [0], [1], [1]]), (2, [[0], [1], [0, 1], [0, 1]]), (3, [[0], [1], [2], [0, 1, 2], []]), (3, [[0], [1], [2], [0, 1, 2]]), (2, [[0], [1], [0, 1], [0], [1]]), (1, [[0], [0], [0], [0]])])) (F := fun X v => LL X v [(1, [[0], [0]]), (1, [[0], [0], [0]]), (2, [[0], [1], [0, 1]]), (2, [[0], [0], [1], [1]]), (2, [[0], [1], [0, 1], [0, 1]]), (3, [[0], [1], [2], [0, 1, 2], []]), (3, [[0], [1], [2], [0, 1, 2]]), (2, [[0], [1], [0, 1], [0], [1]]), (1, [[0], [0], [0], [0]]), (2, [[0], [1], [0, 1], [0], [1], [0, 1]]), (3, [[0], [1], [0, 1], [2], [2]])]) (gv_cat sp (gv_var (v := d2) (F := fun X v => LL X v [(1, [[0], [0]]), (1, [[0], [0], [0]]), (2, [[0], [1], [0, 1]]), (2, [[0], [0], [1], [1]]), (2, [[0], [1], [0, 1], [0, 1]]), (3, [[0], [1], [2], [0, 1, 2], []]), (3, [[0], [1], [2], [0, 1, 2]]), (2, [[0], [1], [0, 1], [0], [1]]), (1, [[0], [0], [0], [0]])]) rfl fun _ p => p.2.resolve_left (by intro z; cases z)) (gv_libs (l := [(2, [[0], [1], [0, 1], [0], [1], [0, 1]]), (3, [[0], [1], [0, 1], [2], [2]])]) (ga_cons stab_lib sp (gv_lib (t := 2) (l := [[0], [1], [0, 1], [0], [1], [0, 1]]) (ga_cons stab_it sp (gv_var (v := .ref a) rfl fun _ p => p.1.1) (ga_cons stab_it sp (gv_var (v := .ref b) rfl fun _ p => p.1.2.1) (ga_cons stab_it sp (gv_it (l := [0, 1]) (ga_cons stab_nv sp (gv_int 0) (ga_cons stab_nv sp (gv_int 1) ga_nil)) (by decide)) (ga_cons stab_it sp (gv_var (v := .ref a) rfl fun _ p => p.1.1) (ga_cons stab_it sp (gv_var (v := .ref b) rfl fun _ p => p.1.2.1) (ga_cons stab_it sp (gv_it (l := [0, 1]) (ga_cons stab_nv sp (gv_int 0) (ga_cons stab_nv sp (gv_int 1) ga_nil)) (by decide)) ga_nil)))))) (by decide)) (ga_cons stab_lib sp (gv_lib (t := 3) (l := [[0], [1], [0, 1], [2], [2]]) (ga_cons stab_it sp (gv_var (v := .ref a) rfl fun _ p => p.1.1) (ga_cons stab_it sp (gv_var (v := .ref b) rfl fun _ p => p.1.2.1) (ga_cons stab_it sp (gv_it (l := [0, 1]) (ga_cons stab_nv sp (gv_int 0) (ga_cons stab_nv sp (gv_int 1) ga_nil)) (by decide)) (ga_cons stab_it sp (gv_var (v := .ref cc) rfl fun _ p => p.1.2.2) (ga_cons stab_it sp (gv_var (v := .ref cc) rfl fun _ p => p.1.2.2) ga_nil))))) (by decide)) ga_nil)) (by decide)) (by decide)) ⟨⟨ea, eb, ec⟩, .inr e2⟩ ?_
  intro d3 H5 m3 e3
  replace ea := ea.kp m3
  replace eb := eb.kp m3
  replace ec := ec.kp m3
  have kA := (((kH.trans m0).trans m1).trans m2).trans m3
  have ro5 := ro.kp kA
  have good : ∀ x ∈ [(1, [[0], [0]]), (1, [[0], [0], [0]]), (2, [[0], [1], [0, 1]]), (2, [[0], [0], [1], [1]]), (2, [[0], [1], [0, 1], [0, 1]]), (3, [[0], [1], [2], [0, 1, 2], []]), (3, [[0], [1], [2], [0, 1, 2]]), (2, [[0], [1], [0, 1], [0], [1]]), (1, [[0], [0], [0], [0]]), (2, [[0], [1], [0, 1], [0], [1], [0, 1]]), (3, [[0], [1], [0, 1], [2], [2]])], Drawn x.1 x.2 := by
    intro x hx
    simp only [List.mem_cons, List.not_mem_nil, or_false] at hx
    rcases hx with rfl | rfl | rfl | rfl | rfl | rfl | rfl | rfl | rfl | rfl | rfl <;> exact drawn_by (by decide)
  obtain ⟨g, gs, rfl, eg, pg⟩ := e3
  have ngr : g ≠ r := by
    rintro rfl
    obtain ⟨_, _, _, z, _⟩ := ro5
    rw [eg] at z
    cases (HO.lst.inj (Option.some.inj z) ▸ pg : Paired (LibX H5) _ _).length
  generalize hall : [(1, [[0], [0]]), (1, [[0], [0], [0]]), (2, [[0], [1], [0, 1]]), (2, [[0], [0], [1], [1]]), (2, [[0], [1], [0, 1], [0, 1]]), (3, [[0], [1], [2], [0, 1, 2], []]), (3, [[0], [1], [2], [0, 1, 2]]), (2, [[0], [1], [0, 1], [0], [1]]), (1, [[0], [0], [0], [0]]), (2, [[0], [1], [0, 1], [0], [1], [0, 1]]), (3, [[0], [1], [0, 1], [2], [2]])] = all at *
  refine ⟨_, rfl, _, rfl, _, rfl, rfl, sa, ns, r, rfl, ro5, ?_⟩
  intro H6 v1 t1 l1 k6 ro6 lib1 dr1
  refine ⟨_, rfl, rfl, sa, ns, r, rfl, ro6, ?_⟩
  intro H7 v2 t2 l2 k7 ro7 lib2 dr2
  have tr : ∀ {A B C : Hp}, Kp (off r A) B → Kp (off r B) C → Kp (off r A) C := fun a b => (kp_to_off a off_same).trans b
  obtain ⟨xs5, er5⟩ := ro5.lst
  obtain ⟨xs6, er6⟩ := ro6.lst
  have k57 : Kp (off r H5) H7 := tr k6 k7
  have eg7 := off_lst k57 ngr eg
  have pg7 : Paired (LibX H7) gs all := Paired.mono (fun _ _ z => lib_off k57 er5 z) pg
  have lib17 : Lib H7 v1 t1 l1 := lib_off k7 er6 lib1
  have gl : gs.length ≤ 20 := by
    rw [pg.length, ← hall]
    decide
  refine ⟨by show 2 ≤ sizeLine; decide, fun e he => ?_⟩
  have ke : Kp H7 (upd H7 e (.lst [v1, v2])) := Kp.new he
  refine ⟨g, e, gs, [v1, v2], rfl, rfl, ke.lst eg7, upd_same, by rw [sizeLine_eq]; show gs.length + 2 ≤ _; omega, fun d hd => ?_⟩
  have kd : Kp (upd H7 e (.lst [v1, v2])) (upd (upd H7 e (.lst [v1, v2])) d (.lst (gs ++ [v1, v2]))) := Kp.new hd
  have k79 := ke.trans kd
  have pp : Paired (LibX H7) (gs ++ [v1, v2]) (all ++ [(t1, l1), (t2, l2)]) := Paired.app pg7 (.cons lib17 (.cons lib2 .nil))
  have ndr : d ≠ r := by
    obtain ⟨xs, q⟩ := (ro7.kp ke).lst
    rintro rfl
    rw [hd] at q
    cases q
  have ed : (upd (upd H7 e (.lst [v1, v2])) d (.lst (gs ++ [v1, v2]))) d = some (.lst (gs ++ [v1, v2])) := upd_same
  generalize upd (upd H7 e (.lst [v1, v2])) d (.lst (gs ++ [v1, v2])) = H9 at *
  have ro9 := ro7.kp k79
  refine ⟨rfl, sa, ns, r, d, _, rfl, ro9, ed, ndr, by rw [List.length_append]; show 1 ≤ _ + 2; omega, by rw [List.length_append]; show _ + 2 ≤ _; omega, ?_⟩
  intro H10 i x k10 ro10 hx
  obtain ⟨y, hy, lx⟩ := Paired.at' pp hx
  obtain ⟨xs9, er9⟩ := ro9.lst
  have dy : Drawn y.1 y.2 := by
    rcases List.mem_append.mp (List.mem_of_getElem? hy) with q | q
    · exact good y q
    · simp only [List.mem_cons, List.not_mem_nil, or_false] at q
      rcases q with rfl | rfl
      · exact dr1
      · exact dr2
  exact k H10 x y.1 y.2 (tr (((off_kp kA).trans k57).trans k79) k10) ro10 (lib_off k10 er9 (stab_lib _ _ _ _ k79.tk lx)) dy
end
end MX
end

section
set_option Elab.async false
set_option linter.all false
set_option maxRecDepth 100000
set_option maxHeartbeats 4000000
namespace MX
open PySem PySem.Spec PyProof.Rows L2
/-- two values of the same data, of numbers and tuples -/
def Same : Nat → Hp → V → V → Prop
  | 0, _, v, u => ∃ i : Int, v = .int i ∧ u = .int i
  | n + 1, H, v, u => (∃ i : Int, v = .int i ∧ u = .int i) ∨ ∃ a b xs ys, v = .ref a ∧ u = .ref b ∧ H a = some (.tup xs) ∧ H b = some (.tup ys) ∧ xs.length ≤ 1000 ∧ Paired (Same n H) xs ys
theorem Same.kp : ∀ {n : Nat} {H H' : Hp} {v u : V}, Same n H v u → Kp H H' → Same n H' v u
  | 0, _, _, _, _, h, _ => h
  | n + 1, _, _, _, _, h, k => by
    rcases h with h | ⟨a, b, xs, ys, e1, e2, ea, eb, hl, p⟩
    · exact .inl h
    · exact .inr ⟨a, b, xs, ys, e1, e2, k.tup ea, k.tup eb, hl, Paired.mono (fun _ _ z => Same.kp z k) p⟩
def sp_alike (n : Nat) : Sp := fun vs H Q _ => vs.length = 2 ∧ ((∃ x y : Bool, vs = [.bl x, .bl y] ∧ ∀ H', Kp H H' → Q (.bl (x == y)) H') ∨ ∃ v u, vs = [v, u] ∧ Same n H v u ∧ ∀ H', Kp H H' → Q (.bl true) H')
section
variable {P : Program} {w : World} {K : PySem.W.Frag} {mg : Str → Option Value} {base : Heap} {f c : Addr} {fd : FuncData}
abbrev st_law_alike : Stmt := topS 54
abbrev N_law_alike : List Str := ["_law_found", "_law_due", "_law_k"]
theorem sc_law_alike : FnScope N_law_alike ["_law_found", "_law_due"] (defScope st_law_alike) := ⟨rfl, rfl, rfl, by decide +kernel, rfl, by decide +kernel, by decide +kernel⟩
def AlC (K : PySem.W.Frag) (n : Nat) (H : Hp) (Q : VK) (vs : List V) : Prop := (∃ v u T d e bT r, vs = [v, u] ∧ (∀ H', TyX K H' v (.type T)) ∧ (∀ H', TyX K H' u (.type T)) ∧ (∀ H', Dp K H' v d) ∧ (∀ H', Dp K H' u e) ∧ SeqAt.shaped d = true ∧ SeqAt.shaped e = true ∧ PyData.eqv d e = r ∧ u ≠ .non ∧
      PySem.W.kitAny K (.type T) [.type "tuple", .type "list"] = some false ∧ PySem.W.kitOne K (.type T) (.type "str") = some false ∧ PySem.W.kitOne K (.type T) (.type "int") = some true ∧ PySem.W.kitOne K (.type T) (.type "bool") = some bT ∧ ∀ H', Kp H H' → Q (.bl r) H') ∨
      ∃ m a b xs ys, n = m + 1 ∧ vs = [.ref a, .ref b] ∧ H a = some (.tup xs) ∧ H b = some (.tup ys) ∧ xs.length ≤ 1000 ∧ Paired (Same m H) xs ys ∧ ∀ H', Kp H H' → Q (.bl true) H'
theorem kit_bA {K : PySem.W.Frag} : PySem.W.kitAny K (.type "bool") [.type "tuple", .type "list"] = some false := kitAny_cons (kit_ty (r := false) (by decide +kernel)) (fun _ => kitAny_cons (kit_ty (r := false) (by decide +kernel)) (fun _ => rfl) (by intro z; cases z)) (by intro z; cases z)
theorem kit_iA {K : PySem.W.Frag} : PySem.W.kitAny K (.type "int") [.type "tuple", .type "list"] = some false := kitAny_cons (kit_ty (r := false) (by decide +kernel)) (fun _ => kitAny_cons (kit_ty (r := false) (by decide +kernel)) (fun _ => rfl) (by intro z; cases z)) (by intro z; cases z)
theorem kit_tA {K : PySem.W.Frag} : PySem.W.kitAny K (.type "tuple") [.type "tuple", .type "list"] = some true := kitAny_cons (kit_ty (r := true) (by decide +kernel)) (by intro z; cases z) (fun _ => rfl)
theorem kit_tl {K : PySem.W.Frag} : PySem.W.kitOne K (.type "tuple") (.type "list") = some false := kit_ty (by decide +kernel)
theorem eqv_int (i : Int) : PyData.eqv (.int i) (.int i) = true := by simp [PyData.eqv]
theorem alike_base (F : FunC K mg "_law_alike" st_law_alike f fd c) : Cal P w K mg base 1 "_law_alike" ["_law_found", "_law_due"] (fun _ _ _ _ => False) := by
  exact F.cal sc_law_alike (fun _ _ _ _ h => h.elim) (fun _ _ _ _ _ _ us hl => match us, hl with | [_, _], _ => rfl) (fun A outer s H vs Q hr h => h.elim) (fun _ _ _ _ h => h)
theorem alike_step {k n : Nat} {sp : Sp} (hsp : ∀ m vs H Q, n = m + 1 → sp_alike m vs H Q E0 → sp vs H Q E0) (F : FunC K mg "_law_alike" st_law_alike f fd c) (B : Bi mg) (C_law_alike : Cal P w K mg base k "_law_alike" ["_law_found", "_law_due"] sp) : Cal P w K mg base (k + 1) "_law_alike" ["_law_found", "_law_due"] (sp_alike n) := by
  refine F.cal sc_law_alike (fun _ _ _ _ h => h.1) (fun _ _ _ _ _ _ us hl => match us, hl with | [_, _], _ => rfl) (fun A outer s H vs Q hr h => ?_) (fun _ _ _ _ h => h)
  refine ⟨_, (pss_cons (ps_if (pt_val (pe_callB (call_isiTK K) (by rfl) B.isi boot_isi (pa_cons (pv 1) (pa_cons (pe_tup (pa_cons (pe_bltn (v := .ty "tuple") (by rfl) B.tuple boot_tuple rfl) (pa_cons (pe_bltn (v := .ty "list") (by rfl) B.list boot_list rfl) pa_nil))) pa_nil)))) (pss_cons (ps_if (PW.pt (pw_or (pt_not (pt_val (pe_callB (call_isiTK K) (by rfl) B.isi boot_isi (pa_cons (pv 0) (pa_cons (pe_tup (pa_cons (pe_bltn (v := .ty "tuple") (by rfl) B.tuple boot_tuple rfl) (pa_cons (pe_bltn (v := .ty "list") (by rfl) B.list boot_list rfl) pa_nil))) pa_nil))))) (pw_or1 (pt_cmpR op_ne (pe_callB (call_isiK K) (by rfl) B.isi boot_isi (pa_cons (pv 0) (pa_cons (pe_bltn (v := .ty "list") (by rfl) B.list boot_list rfl) pa_nil))) (pe_callB (call_isiK K) (by rfl) B.isi boot_isi (pa_cons (pv 1) (pa_cons (pe_bltn (v := .ty "list") (by rfl) B.list boot_list rfl) pa_nil))) (nomark _))))) (pss_one (ps_ret pe_bl)) pss_nil)
  (pss_cons (ps_if (pt_cmpR op_ne (pe_callB (call_len_seqK K) (by rfl) B.len PySem.boot_len (pa_cons (pv 0) pa_nil)) (pe_callB (call_len_seqK K) (by rfl) B.len PySem.boot_len (pa_cons (pv 1) pa_nil)) (nomark _)) (pss_one (ps_ret pe_bl)) pss_nil)
  (pss_one (ps_ret (pe_cmpR (op_eqDK K (hu := hr.units)) (pe_lc (own := [("_law_k", 2)]) rfl sc_law_alike.nd (pi_range1 (by rfl) B.range (pa_cons (pe_callB (call_len_seqK K) (by rfl) B.len PySem.boot_len (pa_cons (pv 1) pa_nil)) pa_nil)) (blkOk_by (own := [("_law_k", 2)]) (N := N_law_alike) (sc := defScope st_law_alike) (by decide +kernel)) (fun _ _ _ _ _ => (pg_name (i := 2) sc_law_alike.nd rfl (by first | exact Or.inl rfl | exact Or.inr rfl))) (fun _ _ _ _ _ => (pts_one (pt_not (pt_val (pe_cal C_law_alike hr (Nat.le_refl _) (by rfl) (pa_cons (pe_ix (ix_tupK K) (pv 0) (pv 2) (fun _ _ => rfl)) (pa_cons (pe_ix (ix_tupK K) (pv 1) (pv 2) (fun _ _ => rfl)) pa_nil))))))) (fun _ _ _ _ _ => (pv 2))) (pe_lst pa_nil) (nomark _)))))) pss_nil)
  (pss_cons (ps_if (PW.pt (pw_or (pt_cmpR op_isN (pv 1) pe_non (nomark _)) (pw_or1 (pt_val (pe_callB (call_isiK K) (by rfl) B.isi boot_isi (pa_cons (pv 1) (pa_cons (pe_bltn (v := .ty "str") (by rfl) B.str boot_str rfl) pa_nil))))))) (pss_one (ps_ret (pe_and (pe_cmpR (op_eqDK K (hu := hr.units)) (pv 0) (pv 1) (nomark _)) (pe_one (pe_cmpR op_eq (pe_callB (call_isiK K) (by rfl) B.isi boot_isi (pa_cons (pv 0) (pa_cons (pe_bltn (v := .ty "str") (by rfl) B.str boot_str rfl) pa_nil))) (pe_callB (call_isiK K) (by rfl) B.isi boot_isi (pa_cons (pv 1) (pa_cons (pe_bltn (v := .ty "str") (by rfl) B.str boot_str rfl) pa_nil))) (nomark _)))))) pss_nil)
  (pss_one (ps_ret (pe_and (pe_callB (call_isiK K) (by rfl) B.isi boot_isi (pa_cons (pv 0) (pa_cons (pe_bltn (v := .ty "int") (by rfl) B.int boot_int rfl) pa_nil))) (pe_and (pe_cmpR op_eq (pe_callB (call_isiK K) (by rfl) B.isi boot_isi (pa_cons (pv 0) (pa_cons (pe_bltn (v := .ty "bool") (by rfl) B.bool boot_bool rfl) pa_nil))) (pe_callB (call_isiK K) (by rfl) B.isi boot_isi (pa_cons (pv 1) (pa_cons (pe_bltn (v := .ty "bool") (by rfl) B.bool boot_bool rfl) pa_nil))) (nomark _)) (pe_one (pe_cmpR (op_eqDK K (hu := hr.units)) (pv 0) (pv 1) (nomark _))))))))), ?_⟩
  have cs : AlC K n H Q vs := by
    obtain ⟨_, ⟨x, y, rfl, q⟩ | ⟨v, u, rfl, same, q⟩⟩ := h
    · exact .inl ⟨_, _, "bool", .bool x, .bool y, true, _, rfl, fun _ => .base (.bl x), fun _ => .base (.bl y), fun _ => .bl x, fun _ => .bl y, rfl, rfl, rfl, (by intro z; cases z), kit_bA, kit_ty (by decide +kernel), kit_ty (by decide +kernel), kit_ty (by decide +kernel), q⟩
    · have it : ∀ i : Int, v = .int i → u = .int i → AlC K n H Q [v, u] := fun i e1 e2 => Or.inl ⟨v, u, "int", .int i, .int i, false, true, rfl, fun _ => by rw [e1]; exact .base (.int i), fun _ => by rw [e2]; exact .base (.int i), fun _ => by rw [e1]; exact .int i, fun _ => by rw [e2]; exact .int i, rfl, rfl, eqv_int i, (by rw [e2]; intro z; cases z), kit_iA, kit_ty (by decide +kernel), kit_ty (by decide +kernel), kit_ty (by decide +kernel), q⟩
      cases n with
      | zero =>
        obtain ⟨i, e1, e2⟩ := same
        exact it i e1 e2
      | succ m =>
        rcases same with ⟨i, e1, e2⟩ | ⟨a, b, xs, ys, rfl, rfl, ea, eb, hl, p⟩
        · exact it i e1 e2
        · exact .inr ⟨m, a, b, xs, ys, rfl, rfl, ea, eb, hl, p, q⟩
  obtain ⟨v, u, T, d, e, bT, r, rfl, tv, tu, dv, du, sd, se, er, hu, kA, kS, kI, kB, q⟩ | ⟨m, a, b, xs, ys, hm, rfl, ea, eb, hl, p, q⟩ := cs
  · refine ⟨_, rfl, by show 2 ≤ sizeLine; decide, fun tp htp => ?_⟩
    have k1 : Kp H (upd H tp (.tup [.ty "tuple", .ty "list"])) := Kp.new htp
    refine ⟨u, tp, _, _, _, _, rfl, upd_same, .cons (.ty _) (.cons (.ty _) .nil), tu _, kA, _, rfl, ifF rfl ?_⟩
    refine ⟨_, rfl, rfl, _, rfl, ifF (decide_eq_false hu) ?_⟩
    refine ⟨_, rfl, u, _, _, _, _, rfl, .ty _, tu _, kS, _, rfl, ifF rfl ?_⟩
    refine ⟨_, rfl, v, _, _, _, _, rfl, .ty _, tv _, kI, _, rfl, ifT rfl ?_⟩
    refine ⟨_, rfl, v, _, _, _, _, rfl, .ty _, tv _, kB, _, rfl, u, _, _, _, _, rfl, .ty _, tu _, kB, rfl, _, rfl, ifT (decide_eq_true rfl) ?_⟩
    refine ⟨_, rfl, _, rfl, d, e, dv _, du _, sd, se, ?_⟩
    rw [er]
    exact q _ k1
  · refine ⟨_, rfl, by show 2 ≤ sizeLine; decide, fun tp htp => ?_⟩
    have k1 : Kp H (upd H tp (.tup [.ty "tuple", .ty "list"])) := Kp.new htp
    refine ⟨_, tp, _, _, _, _, rfl, upd_same, .cons (.ty _) (.cons (.ty _) .nil), .base (.tup (k1.tup eb)), kit_tA, _, rfl, ifT rfl ?_⟩
    generalize upd H tp (.tup [.ty "tuple", .ty "list"]) = H1 at *
    refine ⟨_, rfl, by show 2 ≤ sizeLine; decide, fun tq htq => ?_⟩
    have k2 : Kp H1 (upd H1 tq (.tup [.ty "tuple", .ty "list"])) := Kp.new htq
    refine ⟨_, tq, _, _, _, _, rfl, upd_same, .cons (.ty _) (.cons (.ty _) .nil), .base (.tup ((k1.trans k2).tup ea)), kit_tA, _, rfl, ifF rfl ?_⟩
    generalize upd H1 tq (.tup [.ty "tuple", .ty "list"]) = H2 at *
    have kk := k1.trans k2
    refine ⟨_, rfl, _, _, _, _, _, rfl, .ty _, .base (.tup (kk.tup ea)), kit_tl, _, rfl, _, _, _, _, _, rfl, .ty _, .base (.tup (kk.tup eb)), kit_tl, rfl, _, rfl, ifF rfl ?_⟩
    refine ⟨_, rfl, a, _, rfl, .inr (SqT.of (kk.tup ea)), _, rfl, b, _, rfl, .inr (SqT.of (kk.tup eb)), ?_⟩
    have lxy := p.length
    refine ⟨rfl, _, rfl, ifF (by rw [lxy]; simp) ?_⟩
    refine ⟨_, rfl, b, _, rfl, .inr (SqT.of (kk.tup eb)), (ys.length : Int), rfl, by omega, by omega, fun D hD => ?_⟩
    rw [Int.toNat_natCast]
    refine lc_range (lo := 0) (n := ys.length) (fun j H3 => AccI H2 D IT [] H3) (AccI.zero hD) ?_ ?_
    · intro j H3 hj I
      have k3 := kk.trans I.1
      obtain ⟨x, y, hx, hy, sxy⟩ : ∃ x y, xs[j]? = some x ∧ ys[j]? = some y ∧ Same m H x y := by
        have hx := List.getElem?_eq_getElem (l := xs) (i := j) (by omega)
        obtain ⟨y, hy, sm⟩ := Paired.at' p hx
        exact ⟨_, y, hx, hy, sm⟩
      refine ⟨rfl, ?_⟩
      refine ⟨_, rfl, _, rfl, a, xs, _, x, rfl, rfl, SqT.of (k3.tup ea), (by show atI xs (0 + (j : Int)) = _; rw [Int.zero_add]; exact atI_nat hx), _, rfl, _, rfl, b, ys, _, y, rfl, rfl, SqT.of (k3.tup eb), (by show atI ys (0 + (j : Int)) = _; rw [Int.zero_add]; exact atI_nat hy), ?_⟩
      refine hsp m _ _ _ hm ⟨rfl, .inr ⟨x, y, rfl, sxy.kp k3, fun H4 k4 => ?_⟩⟩
      refine ⟨_, rfl, ifF rfl ?_⟩
      exact I.keep stab_it k4 rfl
    · rintro H3 ⟨k3, acc, hacc, pa⟩
      refine ⟨by show 0 ≤ sizeLine; exact Nat.zero_le _, fun e he => ?_⟩
      have ke : Kp H3 (upd H3 e (.lst [])) := Kp.new he
      exact eq_nil (ke.lst hacc) (ITs.tk pa ke.tk) upd_same (q _ ((kk.trans k3).trans ke))
theorem cal_law_alike (F : FunC K mg "_law_alike" st_law_alike f fd c) (B : Bi mg) : Cal P w K mg base 6 "_law_alike" ["_law_found", "_law_due"] (sp_alike 4) := by
  have h2 : Cal P w K mg base 2 "_law_alike" ["_law_found", "_law_due"] (sp_alike 0) := alike_step (fun m _ _ _ e _ => by cases e) F B (alike_base F)
  have st : ∀ (k n : Nat), Cal P w K mg base k "_law_alike" ["_law_found", "_law_due"] (sp_alike n) → Cal P w K mg base (k + 1) "_law_alike" ["_law_found", "_law_due"] (sp_alike (n + 1)) := fun k n h => alike_step (fun m vs H Q e z => by
    cases e
    exact z) F B h
  exact st 5 3 (st 4 2 (st 3 1 (st 2 0 h2)))
theorem same_it {n : Nat} {H : Hp} {v u : V} {ms : List Nat} (h : IT H v ms) (g : IT H u ms) (hz : ms.length ≤ 1000) : Same (n + 1) H v u := by
  obtain ⟨a, rfl, ea⟩ := h
  obtain ⟨b, rfl, eb⟩ := g
  refine .inr ⟨a, b, _, _, rfl, rfl, ea, eb, by rw [List.length_map]; exact hz, ?_⟩
  clear ea eb hz
  induction ms with
  | nil => exact .nil
  | cons m ms ih =>
    refine .cons ?_ ih
    cases n with
    | zero => exact ⟨_, rfl, rfl⟩
    | succ n => exact .inl ⟨_, rfl, rfl⟩
theorem same_all {β : Type} {F : V → β → Prop} {n : Nat} {H : Hp} {l : List β} (hs : ∀ v u b, b ∈ l → F v b → F u b → Same n H v u) : ∀ {xs ys : List V}, Paired F xs l → Paired F ys l → Paired (Same n H) xs ys := by
  induction l with
  | nil =>
    intro xs ys p q
    cases p
    cases q
    exact .nil
  | cons b l ih =>
    intro xs ys p q
    cases p with
    | cons h p =>
      cases q with
      | cons g q => exact .cons (hs _ _ b (by simp) h g) (ih (fun v u c hc => hs v u c (by simp [hc])) p q)
theorem same_lib {H : Hp} {v u : V} {t : Nat} {l : List (List Nat)} (h : Lib H v t l) (g : Lib H u t l) (hz : l.length ≤ 1000) (hr : ∀ r ∈ l, r.length ≤ 1000) : Same 3 H v u := by
  obtain ⟨a, b, vs, rfl, ea, eb, p⟩ := h
  obtain ⟨a2, b2, us, rfl, ea2, eb2, p2⟩ := g
  refine .inr ⟨a, a2, _, _, rfl, rfl, ea, ea2, by show 2 ≤ 1000; decide, .cons (.inl ⟨_, rfl, rfl⟩) (.cons ?_ .nil)⟩
  exact .inr ⟨b, b2, _, _, rfl, rfl, eb, eb2, by rw [p.length]; exact hz, same_all (F := fun v (r : List Nat) => IT H v r) (fun v u r hm h g => same_it h g (hr r hm)) p p2⟩
theorem same_libs {H : Hp} {a b : Addr} {xs ys : List V} {t : Nat} {L : List (List (List Nat))} (ea : H a = some (.tup xs)) (eb : H b = some (.tup ys)) (p : Libs H t xs L) (q : Libs H t ys L) (hL : L.length ≤ 1000) (hz : ∀ l ∈ L, l.length ≤ 1000 ∧ ∀ r ∈ l, r.length ≤ 1000) : Same 4 H (.ref a) (.ref b) :=
  .inr ⟨a, b, xs, ys, rfl, rfl, ea, eb, by rw [p.length]; exact hL, same_all (F := fun v (l : List (List Nat)) => Lib H v t l) (fun v u l hm h g => same_lib h g (hz l hm).1 (hz l hm).2) p q⟩
end
end MX
end

section
set_option Elab.async false
set_option linter.all false
set_option maxRecDepth 100000
set_option maxHeartbeats 4000000
namespace MX
/-! ### the span, twice -/
structure Sub (f : List Nat) : Prop where
  nd : f.Nodup
  z : 0 ∈ f
  cl : ∀ a ∈ f, ∀ b ∈ f, a ^^^ b ∈ f
theorem xor_back (a m : Nat) : a ^^^ m ^^^ m = a := by rw [Nat.xor_assoc, Nat.xor_self, Nat.xor_zero]
theorem xor_front (a m : Nat) : a ^^^ (a ^^^ m) = m := by rw [← Nat.xor_assoc, Nat.xor_self, Nat.zero_xor]
theorem Sub.step {f : List Nat} (S : Sub f) (m : Nat) : spansStep f m = spanStep f m ∧ Sub (spanStep f m) := by
  unfold spansStep spanStep
  by_cases h : m ∈ f
  · rw [if_pos h]
    refine ⟨?_, S⟩
    have : ((f.map fun o => o ^^^ m).filter fun o => !decide (o ∈ f)) = [] := by
      refine List.filter_eq_nil_iff.mpr fun x hx => ?_
      obtain ⟨o, ho, rfl⟩ := List.mem_map.mp hx
      have := S.cl o ho m h
      simp [this]
    rw [this, List.append_nil]
  · rw [if_neg h]
    have no : ∀ o ∈ f, o ^^^ m ∉ f := fun o ho q => h (by have := S.cl o ho _ q; rwa [xor_front] at this)
    refine ⟨?_, ?_, ?_, ?_⟩
    · congr 1
      refine List.filter_eq_self.mpr fun x hx => ?_
      obtain ⟨o, ho, rfl⟩ := List.mem_map.mp hx
      have := no o ho
      simp [this]
    · refine List.nodup_append.mpr ⟨S.nd, S.nd.map _ fun a b n e => n (by have := congrArg (· ^^^ m) e; simpa [xor_back] using this), fun a ha b hb e => ?_⟩
      obtain ⟨o, ho, rfl⟩ := List.mem_map.mp hb
      exact no o ho (e ▸ ha)
    · exact List.mem_append_left _ S.z
    · intro a ha b hb
      rcases List.mem_append.mp ha with ha | ha <;> rcases List.mem_append.mp hb with hb | hb
      · exact List.mem_append_left _ (S.cl a ha b hb)
      · obtain ⟨o, ho, rfl⟩ := List.mem_map.mp hb
        refine List.mem_append_right _ (List.mem_map.mpr ⟨a ^^^ o, S.cl a ha o ho, ?_⟩)
        show a ^^^ o ^^^ m = a ^^^ (o ^^^ m)
        rw [Nat.xor_assoc]
      · obtain ⟨o, ho, rfl⟩ := List.mem_map.mp ha
        refine List.mem_append_right _ (List.mem_map.mpr ⟨o ^^^ b, S.cl o ho b hb, ?_⟩)
        show o ^^^ b ^^^ m = o ^^^ m ^^^ b
        rw [Nat.xor_assoc, Nat.xor_comm b m, Nat.xor_assoc]
      · obtain ⟨o, ho, rfl⟩ := List.mem_map.mp ha
        obtain ⟨p, hp, rfl⟩ := List.mem_map.mp hb
        refine List.mem_append_left _ ?_
        have e : o ^^^ m ^^^ (p ^^^ m) = o ^^^ p := by rw [Nat.xor_comm p m, ← Nat.xor_assoc, xor_back]
        rw [e]
        exact S.cl o ho p hp
theorem span_two : ∀ (ms f : List Nat), Sub f → ms.foldl spansStep f = ms.foldl spanStep f ∧ Sub (ms.foldl spanStep f)
  | [], f, S => ⟨rfl, S⟩
  | m :: ms, f, S => by
    obtain ⟨e, S2⟩ := S.step m
    rw [List.foldl_cons, List.foldl_cons, e]
    exact span_two ms _ S2
theorem sub0 : Sub [0] where
  nd := by decide
  z := by decide
  cl := by
    intro a ha b hb
    rw [List.mem_singleton.mp ha, List.mem_singleton.mp hb]
    decide
theorem keeps_all (t : Nat) (ms : List Nat) : lawKeeps t ms = hasAll t ms := by
  obtain ⟨e, S⟩ := span_two ms [0] sub0
  have p : (sortN (spansF ms)).Perm (spanF ms) := by
    unfold spansF
    rw [e]
    exact (List.perm_ext_iff_of_nodup (sortN_nodup _) S.nd).mpr fun x => sortN_mem
  unfold lawKeeps hasAll
  rw [p.length_eq]
/-! ### sums -/
def totI (ms r : List Nat) : Nat := totalOf (r.map fun i => ms.getD i 0)
theorem totI_app (ms r : List Nat) (k : Nat) : totI ms (r ++ [k]) = totI ms r ^^^ ms.getD k 0 := by
  unfold totI totalOf
  rw [List.map_append, List.foldl_append]
  rfl
structure Asc (k : Nat) (r : List Nat) : Prop where
  pw : r.Pairwise (· < ·)
  lt : ∀ a ∈ r, a < k
theorem Asc.snoc {k n : Nat} {r : List Nat} (h : Asc k r) (hk : k < n) : Asc n (r ++ [k]) where
  pw := List.pairwise_append.mpr ⟨h.pw, List.pairwise_singleton _ _, fun a ha b hb => by rw [List.mem_singleton.mp hb]; exact h.lt a ha⟩
  lt := fun a ha => by
    rcases List.mem_append.mp ha with ha | ha
    · have := h.lt a ha
      omega
    · rw [List.mem_singleton.mp ha]
      exact hk
theorem Asc.of_snoc {n k : Nat} {r : List Nat} (h : Asc n (r ++ [k])) : Asc k r ∧ k < n where
  left := ⟨(List.pairwise_append.mp h.pw).1, fun a ha => (List.pairwise_append.mp h.pw).2.2 a ha k (List.mem_singleton_self k)⟩
  right := h.lt k (List.mem_append_right _ (List.mem_singleton_self k))
theorem Asc.le {k n : Nat} {r : List Nat} (h : Asc k r) (hk : k ≤ n) : Asc n r := ⟨h.pw, fun a ha => Nat.lt_of_lt_of_le (h.lt a ha) hk⟩
theorem rows_iff (most : Nat) : ∀ (k : Nat) (r : List Nat), r ∈ rowsF (List.range k) most ↔ Asc k r ∧ r.length ≤ most
  | 0, r => by
    unfold rowsF
    rw [List.range_zero, List.foldl_nil, List.mem_singleton]
    constructor
    · rintro rfl
      exact ⟨⟨.nil, by simp⟩, Nat.zero_le _⟩
    · rintro ⟨h, _⟩
      cases r with
      | nil => rfl
      | cons a r => exact absurd (h.lt a (by simp)) (Nat.not_lt_zero _)
  | k + 1, r => by
    have ih := rows_iff most k
    unfold rowsF at ih ⊢
    rw [List.range_succ, List.foldl_append, List.foldl_cons, List.foldl_nil]
    generalize (List.range k).foldl (rowStep most) [[]] = f at *
    unfold rowStep
    rw [List.mem_append, List.mem_map]
    constructor
    · rintro (h | ⟨s, h, rfl⟩)
      · have := (ih r).mp h
        exact ⟨this.1.le (by omega), this.2⟩
      · obtain ⟨h1, h2⟩ := List.mem_filter.mp h
        have h3 := (ih s).mp h1
        have h2 := of_decide_eq_true h2
        exact ⟨h3.1.snoc (by omega), by rw [List.length_append]; exact h2⟩
    · rintro ⟨h, hl⟩
      rcases List.eq_nil_or_concat r with rfl | ⟨s, a, rfl⟩
      · exact .inl ((ih _).mpr ⟨⟨.nil, by simp⟩, Nat.zero_le _⟩)
      · rw [List.concat_eq_append] at *
        obtain ⟨h1, h2⟩ := h.of_snoc
        by_cases e : a = k
        · subst e
          rw [List.length_append] at hl
          refine .inr ⟨s, List.mem_filter.mpr ⟨(ih _).mpr ⟨h1, ?_⟩, decide_eq_true ?_⟩, rfl⟩ <;> simp at hl <;> omega
        · exact .inl ((ih _).mpr ⟨h1.snoc (by omega), hl⟩)
theorem writ_to (ms : List Nat) : ∀ (i : Nat), ∀ p ∈ (writS ms i).1, ∃ r, r.length = i ∧ Asc p.1 r ∧ p.1 ≤ ms.length ∧ p.2 = totI ms r
  | 0, p, h => by
    rw [List.mem_singleton.mp h]
    exact ⟨[], rfl, ⟨.nil, by simp⟩, Nat.zero_le _, rfl⟩
  | i + 1, p, h => by
    obtain ⟨q, hq, h⟩ := List.mem_flatMap.mp h
    obtain ⟨r, hl, a, b, c⟩ := writ_to ms i q hq
    obtain ⟨k, hk, rfl⟩ := List.mem_map.mp h
    have hk := List.mem_range'_1.mp hk
    refine ⟨r ++ [k], by rw [List.length_append, hl]; rfl, (a.le hk.1).snoc (Nat.lt_succ_self k), by show k + 1 ≤ _; omega, ?_⟩
    rw [totI_app, ← c]
theorem writ_of (ms : List Nat) : ∀ (i : Nat) (r : List Nat), r.length = i → Asc ms.length r → ∃ s, (s, totI ms r) ∈ (writS ms i).1 ∧ ∀ k, Asc k r → s ≤ k
  | 0, r, hl, a => by
    cases r with
    | nil => exact ⟨0, List.mem_singleton.mpr rfl, fun k _ => Nat.zero_le k⟩
    | cons _ _ => cases hl
  | i + 1, r, hl, a => by
    rcases List.eq_nil_or_concat r with rfl | ⟨s, k, rfl⟩
    · cases hl
    · rw [List.concat_eq_append] at *
      obtain ⟨h1, h2⟩ := a.of_snoc
      obtain ⟨q, hq, hm⟩ := writ_of ms i s (by rw [List.length_append] at hl; simpa using hl) (h1.le (by omega))
      have := hm k h1
      refine ⟨k + 1, List.mem_flatMap.mpr ⟨_, hq, List.mem_map.mpr ⟨k, List.mem_range'_1.mpr ⟨this, by show k < q + (ms.length - q); omega⟩, ?_⟩⟩, fun j hj => (hj.lt k (by simp))⟩
      rw [totI_app]
theorem writ_mem (ms : List Nat) (x : Nat) : ∀ i, x ∈ (writS ms i).2 ↔ ∃ r, Asc ms.length r ∧ r.length ≤ i ∧ x = totI ms r
  | 0 => by
    constructor
    · intro h
      rw [List.mem_singleton.mp h]
      exact ⟨[], ⟨.nil, by simp⟩, Nat.zero_le _, rfl⟩
    · rintro ⟨r, _, h, rfl⟩
      cases r with
      | nil => exact List.mem_singleton.mpr rfl
      | cons _ _ => cases h
  | i + 1 => by
    show x ∈ (writS ms i).2 ++ (writS ms (i + 1)).1.map (·.2) ↔ _
    rw [List.mem_append, writ_mem ms x i]
    constructor
    · rintro (⟨r, a, b, c⟩ | h)
      · exact ⟨r, a, by omega, c⟩
      · obtain ⟨p, hp, rfl⟩ := List.mem_map.mp h
        obtain ⟨r, a, b, c, d⟩ := writ_to ms (i + 1) p hp
        exact ⟨r, b.le c, by omega, d⟩
    · rintro ⟨r, a, b, c⟩
      by_cases e : r.length ≤ i
      · exact .inl ⟨r, a, e, c⟩
      · obtain ⟨s, hs, _⟩ := writ_of ms (i + 1) r (by omega) a
        exact .inr (List.mem_map.mpr ⟨_, hs, c.symm⟩)
theorem writ_sums (ms : List Nat) (most x : Nat) : x ∈ lawWrit ms most ↔ x ∈ sumsOf ms most := by
  unfold lawWrit sumsOf rowsOf
  rw [sortN_mem, writ_mem, putNs_mem, List.mem_map]
  constructor
  · rintro ⟨r, a, b, rfl⟩
    exact .inr ⟨r, sort_mem.mpr ((rows_iff _ _ _).mpr ⟨a, b⟩), rfl⟩
  · rintro (h | ⟨r, h, rfl⟩)
    · cases h
    · have := (rows_iff _ _ _).mp (sort_mem.mp h)
      exact ⟨r, this.1, this.2, rfl⟩
/-! ### made and filled -/
theorem fil_mem {most : Nat} {f : List (List Nat)} {x : List Nat} : x ∈ filledStep most f ↔ ∃ y ∈ f, x ∈ grown most y := by
  unfold filledStep
  have : ∀ (f l : List (List Nat)), x ∈ f.foldl (fun l ms => (grown most ms).foldl putN l) l ↔ x ∈ l ∨ ∃ y ∈ f, x ∈ grown most y := by
    intro f
    induction f with
    | nil => intro l; simp
    | cons y f ih =>
      intro l
      rw [List.foldl_cons, ih, putNs_mem]
      simp [or_assoc]
  rw [this]
  simp
theorem cho_mem {f : List (List Nat)} {x : List Nat} : x ∈ chosenStep f ↔ ∃ y ∈ f, x ∈ cuts y := by
  unfold chosenStep
  have : ∀ (f l : List (List Nat)), x ∈ f.foldl (fun l left => (cuts left).foldl putN l) l ↔ x ∈ l ∨ ∃ y ∈ f, x ∈ cuts y := by
    intro f
    induction f with
    | nil => intro l; simp
    | cons y f ih =>
      intro l
      rw [List.foldl_cons, ih, putNs_mem]
      simp [or_assoc]
  rw [this]
  simp
theorem grown_two {most : Nat} {ms x : List Nat} : x ∈ lawGrown most ms ↔ x ∈ grown most ms := by
  unfold lawGrown grown
  rw [List.mem_map, List.mem_map]
  constructor
  · rintro ⟨m, hm, e⟩
    exact ⟨m, (writ_sums ms most m).mp hm, e⟩
  · rintro ⟨m, hm, e⟩
    exact ⟨m, (writ_sums ms most m).mpr hm, e⟩
theorem made_mem {left : List Nat} {most : Nat} (many : Nat) {x : List Nat} : x ∈ lawMade left many most ↔ x ∈ filled left many most := by
  unfold lawMade filled
  rw [sort_mem]
  induction many generalizing x with
  | zero => exact Iff.rfl
  | succ n ih =>
    show x ∈ sortU _ ↔ x ∈ filledStep most _
    rw [sortU_mem, List.mem_flatMap, fil_mem]
    constructor
    · rintro ⟨y, hy, hx⟩
      exact ⟨y, ih.mp hy, grown_two.mp hx⟩
    · rintro ⟨y, hy, hx⟩
      exact ⟨y, ih.mpr hy, grown_two.mpr hx⟩
/-! ### in order -/
/-- in the tablets' order -/
def POrd (m : List Nat) : Prop := m.Pairwise fun a b => ¬ tabletOf b < tabletOf a
theorem ord_eq {m : List Nat} (h : POrd m) : inOrder m = m := by
  unfold inOrder
  refine List.mergeSort_of_pairwise (h.imp fun q => ?_)
  simpa using q
theorem ord_in (m : List Nat) : POrd (inOrder m) := by
  have := List.pairwise_mergeSort (le := fun a b : Nat => !decide (tabletOf b < tabletOf a)) (fun a b c h1 h2 => by
    simp only [Bool.not_eq_true', decide_eq_false_iff_not] at h1 h2 ⊢
    exact List.le_trans h1 h2) (fun a b => by
    simp only [Bool.or_eq_true, Bool.not_eq_true', decide_eq_false_iff_not]
    exact List.le_total _ _) m
  exact this.imp fun h => by simpa using h
theorem ord_in2 (m : List Nat) : inOrder (inOrder m) = inOrder m := ord_eq (ord_in m)
theorem cuts_ord {m x : List Nat} (h : POrd m) (hx : x ∈ cuts m) : POrd x := by
  unfold cuts at hx
  obtain ⟨k, hk, rfl⟩ := List.mem_map.mp hx
  refine List.Pairwise.sublist ?_ h
  have : (m.take k ++ m.drop (k + 1)).Sublist (m.take k ++ m.drop k) := (List.Sublist.refl _).append (List.drop_sublist_drop_left m (Nat.le_succ k))
  rwa [List.take_append_drop] at this
theorem lefts_mem {m : List Nat} (h : POrd m) (many : Nat) : ∀ x, (x ∈ lawLefts m many ↔ x ∈ chosen m many) ∧ (x ∈ chosen m many → POrd x) := by
  unfold lawLefts chosen
  intro x
  rw [sort_mem]
  induction many generalizing x with
  | zero => exact ⟨Iff.rfl, fun hx => by rw [List.mem_singleton.mp hx]; exact h⟩
  | succ n ih =>
    have p : x ∈ iter chosenStep (n + 1) [m] → POrd x := fun hx => by
      obtain ⟨y, hy, hc⟩ := cho_mem.mp hx
      exact cuts_ord ((ih y).2 hy) hc
    refine ⟨?_, p⟩
    show x ∈ sortU _ ↔ x ∈ chosenStep _
    rw [sortU_mem, List.mem_map, cho_mem]
    constructor
    · rintro ⟨c, hc, rfl⟩
      obtain ⟨y, hy, hc⟩ := List.mem_flatMap.mp hc
      have hy := (ih y).1.mp hy
      rw [ord_eq (cuts_ord ((ih y).2 hy) hc)]
      exact ⟨y, hy, hc⟩
    · rintro ⟨y, hy, hc⟩
      exact ⟨x, List.mem_flatMap.mpr ⟨y, (ih y).1.mpr hy, hc⟩, ord_eq (cuts_ord ((ih y).2 hy) hc)⟩
theorem filled_ord {left x : List Nat} {most melts : Nat} (h1 : 1 ≤ melts) (hx : x ∈ filled left melts most) : POrd x := by
  unfold filled at hx
  rw [sort_mem] at hx
  cases melts with
  | zero => cases h1
  | succ n =>
    obtain ⟨y, hy, hx⟩ := fil_mem.mp hx
    obtain ⟨k, hk, rfl⟩ := List.mem_map.mp hx
    exact ord_in _
theorem lost_law {t most melts : Nat} (h1 : 1 ≤ melts) {m : List Nat} (h : POrd m) : Lost t most melts m ↔ LawLost t most melts m := by
  constructor
  · intro q
    induction q with
    | base e => exact .base (by rw [keeps_all]; exact e)
    | @none m e =>
      obtain ⟨left, hl, e⟩ := List.mem_map.mp e
      have hn : hasAll t left = false := by
        cases hh : hasAll t left with
        | false => rfl
        | true => rw [hh] at e; cases e
      refine .step (l := []) (List.mem_map.mpr ⟨left, ((lefts_mem h melts left).1).mpr hl, ?_⟩) (by simp)
      rw [keeps_all, hn]
      rfl
    | @some m l e q ih =>
      obtain ⟨left, hl, e⟩ := List.mem_map.mp e
      have hn : hasAll t left = true := by
        cases hh : hasAll t left with
        | true => rfl
        | false => rw [hh] at e; cases e
      rw [hn] at e
      obtain rfl : filled left melts most = l := by simpa using e
      refine .step (l := lawMade left melts most) (List.mem_map.mpr ⟨left, ((lefts_mem h melts left).1).mpr hl, ?_⟩) fun x hx => ?_
      · rw [keeps_all, hn]
        rfl
      · have hx := (made_mem melts).mp hx
        exact ih x hx (filled_ord h1 hx)
  · intro q
    induction q with
    | base e => exact .base (by rw [← keeps_all]; exact e)
    | @step m l e q ih =>
      obtain ⟨left, hl, e⟩ := List.mem_map.mp e
      have hl := ((lefts_mem h melts left).1).mp hl
      cases hh : hasAll t left with
      | false => exact .none (List.mem_map.mpr ⟨left, hl, by rw [hh]; rfl⟩)
      | true =>
        rw [keeps_all, hh] at e
        obtain rfl : lawMade left melts most = l := by simpa using e
        refine .some (l := filled left melts most) (List.mem_map.mpr ⟨left, hl, by rw [hh]; rfl⟩) fun x hx => ih x ((made_mem melts).mpr hx) (filled_ord h1 hx)
theorem fil_some {l there : List (List Nat)} : (!(l.filter fun m => decide (m ∈ there)).isEmpty) = true ↔ ∃ x ∈ l, x ∈ there := by
  rw [Bool.not_eq_true', ← Bool.not_eq_true, List.isEmpty_iff, List.filter_eq_nil_iff]
  constructor
  · intro h
    by_cases q : ∃ x ∈ l, x ∈ there
    · exact q
    · exact absurd (fun x hx => by simpa using fun hh => q ⟨x, hx, hh⟩) h
  · rintro ⟨x, hx, hh⟩ q
    exact q x hx (by simpa using hh)
theorem held_kept {t most melts : Nat} {T1 T2 : List (List Nat)} (e : ∀ x, x ∈ T1 ↔ x ∈ T2) {m : List Nat} (h : POrd m) : lawKept t most melts T1 m = heldB t most melts T2 m := by
  have : lawKept t most melts T1 m = true ↔ heldB t most melts T2 m = true := by
    unfold lawKept heldB ansOf
    rw [List.all_eq_true, List.all_eq_true]
    constructor
    · intro q o ho
      obtain ⟨left, hl, rfl⟩ := List.mem_map.mp ho
      have := q left ((lefts_mem h melts left).1.mpr hl)
      unfold okM at this
      rw [Bool.and_eq_true, fil_some, keeps_all] at this
      obtain ⟨a, x, hx, hh⟩ := this
      rw [a]
      exact fil_some.mpr ⟨x, (made_mem melts).mp hx, (e x).mp hh⟩
    · intro q left hl
      have := q _ (List.mem_map.mpr ⟨left, (lefts_mem h melts left).1.mp hl, rfl⟩)
      unfold okM
      rw [Bool.and_eq_true, fil_some, keeps_all]
      cases hh : hasAll t left with
      | false => rw [hh] at this; cases this
      | true =>
        rw [hh] at this
        obtain ⟨x, hx, hy⟩ := fil_some.mp this
        exact ⟨rfl, x, (made_mem melts).mpr hx, (e x).mpr hy⟩
  cases a : lawKept t most melts T1 m <;> cases b : heldB t most melts T2 m <;> simp_all
theorem reach_ord {t most melts : Nat} (h1 : 1 ≤ melts) {first m : List Nat} (h : POrd first) (r : Reach t most melts first m) : POrd m := by
  induction r with
  | first => exact h
  | step _ hl hx ih =>
    obtain ⟨left, _, e⟩ := List.mem_map.mp hl
    split at e
    · obtain rfl : filled left melts most = _ := by simpa using e
      exact filled_ord h1 hx
    · cases e
end MX
end

section
set_option Elab.async false
set_option linter.all false
set_option maxRecDepth 100000
set_option maxHeartbeats 4000000
namespace MX
/-! ### lists of rows in order -/
theorem lt_no {a b : List (List Nat)} (h : a < b) : ¬ b < a := List.lt_asymm h
theorem lt_of {a b : List (List Nat)} (h : ¬ b < a) (n : a ≠ b) : a < b := by
  by_cases q : a < b
  · exact q
  · exact absurd (List.le_antisymm h q) n
theorem pw_lt {l : List (List (List Nat))} (h : l.Pairwise fun a b => ¬ b < a) (nd : l.Nodup) : l.Pairwise (· < ·) := (List.Pairwise.and h nd).imp fun q => lt_of q.1 q.2
theorem sort_uniq {l m : List (List (List Nat))} (p : l.Perm m) (h : m.Pairwise (· < ·)) : sortM l = m := by
  refine List.Perm.eq_of_pairwise (le := fun a b : List (List Nat) => ¬ b < a) (fun a b _ _ x y => List.le_antisymm x y) (sortM_pw l) (h.imp fun q => lt_no q) ((sortM_perm l).trans p)
/-! ### the family told -/
/-- tablets of masks, masks of tablets -/
def tabs (m : List Nat) : List (List Nat) := m.map tabletOf
def msks (L : List (List Nat)) : List Nat := L.map maskOf
theorem msks_tabs {m : List Nat} (h : ∀ x ∈ m, x < 8) : msks (tabs m) = m := by
  unfold msks tabs
  rw [List.map_map]
  conv => rhs; rw [← List.map_id m]
  exact List.map_congr_left fun x hx => mask_tab x (h x hx)
theorem row_tab : ∀ t, t ≤ 3 → ∀ x, x < 2 ^ t → rowB t (tabletOf x) = true := by
  intro t ht
  match t, ht with
  | 0, _ => decide
  | 1, _ => decide
  | 2, _ => decide
  | 3, _ => decide
def libO (t : Nat) (L : List (List Nat)) : LibO := some (t, L.map some)
theorem rowsL_lib (t : Nat) (L : List (List Nat)) : rowsL (libO t L) = L := by
  unfold libO rowsL
  show (L.map some).map _ = L
  rw [List.map_map]
  conv => rhs; rw [← List.map_id L]
  exact List.map_congr_left fun x hx => rfl
theorem rowsL_all (t : Nat) (ls : List (List (List Nat))) : (ls.map (libO t)).map rowsL = ls := by
  rw [List.map_map]
  conv => rhs; rw [← List.map_id ls]
  exact List.map_congr_left fun x hx => rowsL_lib t x
theorem pw_getD {α : Type} {r : α → α → Prop} {l : List α} (h : l.Pairwise r) (d : α) {i j : Nat} (hi : i < j) (hj : j < l.length) : r (l.getD i d) (l.getD j d) := by
  have := List.pairwise_iff_getElem.mp h i j (by omega) hj hi
  rwa [List.getD_eq_getElem?_getD, List.getD_eq_getElem?_getD, List.getElem?_eq_getElem (by omega), List.getElem?_eq_getElem hj]
theorem sortedV_tabs {t n : Nat} (ht : t ≤ 3) {m : List Nat} (f : Fit t n m) (o : POrd m) : sortedV t n (libO t (tabs m)) = true := by
  unfold sortedV libO
  simp only [Bool.and_eq_true, decide_eq_true_eq]
  refine ⟨⟨⟨trivial, by unfold tabs; rw [List.length_map, List.length_map]; exact f.1⟩, ?_⟩, ?_⟩
  · refine List.all_eq_true.mpr fun x hx => ?_
    obtain ⟨r, hr, rfl⟩ := List.mem_map.mp hx
    obtain ⟨k, hk, rfl⟩ := List.mem_map.mp hr
    exact row_tab t ht k (f.2 k hk)
  · have e : ((tabs m).map some).map (fun o : Option (List Nat) => o.getD []) = tabs m := by
      rw [List.map_map]
      conv => rhs; rw [← List.map_id (tabs m)]
      exact List.map_congr_left fun x hx => rfl
    rw [e]
    refine nascB_iff.mpr fun i hi => ?_
    have pw : (tabs m).Pairwise fun a b => ¬ b < a := o.map _ fun a b h => h
    exact pw_getD pw [] (Nat.lt_succ_self i) hi
/-- what holds of a family that is told -/
structure Fam (t n most melts : Nat) (first : List Nat) (S : List (List Nat)) : Prop where
  t3 : t ≤ 3
  nd : S.Nodup
  fst : first ∈ S
  fit : ∀ m ∈ S, Fit t n m
  ord : ∀ m ∈ S, POrd m
  keep : ∀ m ∈ S, ∀ o ∈ ansOf t most melts m, ∃ l, o = some l ∧ ∃ x ∈ l, x ∈ S
def toldOf (S : List (List Nat)) : List (List (List Nat)) := sortM (S.map tabs)
section
variable {t n most melts : Nat} {first : List Nat} {S : List (List Nat)}
theorem fit8 {m : List Nat} (ht : t ≤ 3) (f : Fit t n m) : ∀ x ∈ m, x < 8 := fun x hx => Nat.lt_of_lt_of_le (f.2 x hx) (Nat.le_trans (Nat.pow_le_pow_right (by decide) ht) (by decide))
theorem Held.fam (ht : t ≤ 3) (h1 : 1 ≤ melts) (hm : melts ≤ n) (ff : Fit t n first) (fo : POrd first) (h : Held t most melts first S) : Fam t n most melts first S where
  t3 := ht
  nd := h.nd
  fst := h.fst
  fit := fun m hm2 => by
    have := h.reach m hm2
    clear hm2
    induction this with
    | first => exact ff
    | step _ hl hx ih => exact ((ans_fit hm ih).2 _ hl).2 _ hx
  ord := fun m hm2 => reach_ord h1 fo (h.reach m hm2)
  keep := h.keep
variable (F : Fam t n most melts first S)
include F
theorem Fam.told_mem {L : List (List Nat)} : L ∈ toldOf S ↔ ∃ m ∈ S, L = tabs m := by
  unfold toldOf
  rw [(sortM_perm _).mem_iff, List.mem_map]
  constructor
  · rintro ⟨m, hm, e⟩
    exact ⟨m, hm, e.symm⟩
  · rintro ⟨m, hm, e⟩
    exact ⟨m, hm, e.symm⟩
theorem Fam.told_nd : (toldOf S).Nodup := by
  refine (sortM_perm _).nodup_iff.mpr ?_
  have h8 : ∀ m ∈ S, msks (tabs m) = m := fun m hm => msks_tabs (fit8 F.t3 (F.fit m hm))
  unfold List.Nodup
  rw [List.pairwise_map]
  refine List.Pairwise.imp_of_mem ?_ F.nd
  intro a b ha hb ne e
  refine ne ?_
  rw [← h8 a ha, ← h8 b hb, e]
theorem Fam.told_lt : (toldOf S).Pairwise (· < ·) := pw_lt (sortM_pw _) F.told_nd
theorem Fam.there_mem {x : List Nat} : x ∈ (toldOf S).map msks ↔ x ∈ S := by
  rw [List.mem_map]
  constructor
  · rintro ⟨L, hL, rfl⟩
    obtain ⟨m, hm, rfl⟩ := F.told_mem.mp hL
    rw [msks_tabs (fit8 F.t3 (F.fit m hm))]
    exact hm
  · intro hx
    exact ⟨tabs x, F.told_mem.mpr ⟨x, hx, rfl⟩, msks_tabs (fit8 F.t3 (F.fit x hx))⟩
theorem Fam.thereOf_mem {x : List Nat} : x ∈ thereOf ((toldOf S).map (libO t)) ↔ x ∈ S := by
  unfold thereOf
  rw [putNs_mem, rowsL_all]
  show x ∈ [] ∨ x ∈ (toldOf S).map msks ↔ _
  rw [F.there_mem]
  simp
theorem Fam.sorted : ∀ o ∈ (toldOf S).map (libO t), sortedV t n o = true := by
  intro o ho
  obtain ⟨L, hL, rfl⟩ := List.mem_map.mp ho
  obtain ⟨m, hm, rfl⟩ := F.told_mem.mp hL
  exact sortedV_tabs F.t3 (F.fit m hm) (F.ord m hm)
theorem Fam.asc : ascM ((toldOf S).map (libO t) |>.map rowsL) = true := by
  rw [rowsL_all]
  exact ascM_iff.mpr fun i hi => pw_getD F.told_lt [] (Nat.lt_succ_self i) hi
theorem Fam.held {T : List (List Nat)} (h : ∀ x, x ∈ T ↔ x ∈ S) {m : List Nat} (hm : m ∈ S) : heldB t most melts T m = true := by
  unfold heldB
  refine List.all_eq_true.mpr fun o ho => ?_
  obtain ⟨l, rfl, x, hx, hy⟩ := F.keep m hm o ho
  exact fil_some.mpr ⟨x, hx, (h x).mpr hy⟩
theorem Fam.shown : showB t n most melts first ((toldOf S).map (libO t)) = true := by
  unfold showB
  simp only [Bool.and_eq_true, decide_eq_true_eq]
  refine ⟨⟨⟨List.all_eq_true.mpr F.sorted, F.asc⟩, F.thereOf_mem.mpr F.fst⟩, List.all_eq_true.mpr fun m hm => ?_⟩
  exact F.held (fun x => F.thereOf_mem) (F.thereOf_mem.mp hm)
theorem Fam.kept {m : List Nat} (hm : m ∈ (toldOf S).map msks) : lawKept t most melts ((toldOf S).map msks) m = true := by
  have hm := F.there_mem.mp hm
  rw [held_kept (T2 := S) (fun x => F.there_mem) (F.ord m hm)]
  exact F.held (fun x => Iff.rfl) hm
theorem Fam.fst_there : first ∈ (toldOf S).map msks := F.there_mem.mpr F.fst
theorem Fam.told_set : sortM (dd (toldOf S)) = toldOf S := by
  refine sort_uniq ?_ F.told_lt
  exact (List.perm_ext_iff_of_nodup (dd_nodup _) F.told_nd).mpr fun x => dd_mem
theorem Fam.told_ne : toldOf S ≠ [] := by
  intro e
  have := F.fst_there
  rw [e] at this
  cases this
omit F in
theorem bad_void : showB t n most melts first [] = false := by
  unfold showB thereOf
  simp
omit F in
theorem bad_none (os : List LibO) : showB t n most melts first (os ++ [none]) = false := by
  unfold showB
  have : (os ++ [none]).all (sortedV t n) = false := by
    rw [List.all_append]
    simp [sortedV]
  rw [this]
  rfl
omit F in
theorem bad_asc {os : List LibO} {i : Nat} (hi : i + 1 < os.length) (h : ¬ (os.map rowsL).getD i [] < (os.map rowsL).getD (i + 1) []) : showB t n most melts first os = false := by
  unfold showB
  have : ascM (os.map rowsL) = false := by
    rw [← Bool.not_eq_true, ascM_iff]
    intro q
    exact h (q i (by rw [List.length_map]; exact hi))
  rw [this]
  simp
theorem Fam.bad_rev (h : 1 < (toldOf S).length) : showB t n most melts first ((toldOf S).map (libO t)).reverse = false := by
  refine bad_asc (i := 0) (by rw [List.length_reverse, List.length_map]; omega) ?_
  rw [List.map_reverse, rowsL_all]
  have pw : (toldOf S).reverse.Pairwise fun a b => b < a := List.pairwise_reverse.mpr F.told_lt
  have := pw_getD pw [] (i := 0) (j := 1) (by omega) (by rw [List.length_reverse]; omega)
  exact lt_no this
omit F in
theorem void_least : ∀ (n : Nat) (L : List (List Nat)), L.length = n → ¬ L < List.replicate n []
  | 0, L, h => by
    rw [List.length_eq_zero_iff.mp h]
    exact List.lt_irrefl _
  | n + 1, [], h => by cases h
  | n + 1, a :: L, h => by
    rw [List.replicate_succ, List.cons_lt_cons_iff]
    rintro (q | ⟨rfl, q⟩)
    · exact List.not_lt_nil _ q
    · exact void_least n L (by simpa using h) q
theorem Fam.bad_more : showB t n most melts first ((toldOf S).map (libO t) ++ [libO t (List.replicate n [])]) = false := by
  have ne := List.length_pos_iff.mpr F.told_ne
  refine bad_asc (i := (toldOf S).length - 1) (by rw [List.length_append, List.length_map, List.length_singleton]; omega) ?_
  rw [List.map_append, rowsL_all, List.map_singleton, rowsL_lib]
  have e1 : (toldOf S).length - 1 + 1 = (toldOf S).length := by omega
  rw [e1, List.getD_eq_getElem?_getD, List.getD_eq_getElem?_getD, List.getElem?_append_left (by omega), List.getElem?_append_right (Nat.le_refl _), Nat.sub_self, List.getElem?_eq_getElem (by omega)]
  show ¬ (toldOf S)[(toldOf S).length - 1] < List.replicate n []
  obtain ⟨m, hm, e⟩ := F.told_mem.mp (List.getElem_mem (l := toldOf S) (n := (toldOf S).length - 1) (by omega))
  rw [e]
  exact void_least n _ (by unfold tabs; rw [List.length_map]; exact (F.fit m hm).1)
omit F in
theorem bad_masks (hn : 1 ≤ n) : showB t n most melts first [some (t, List.replicate n none)] = false := by
  unfold showB
  have : List.all [some (t, List.replicate n none)] (sortedV t n) = false := by
    obtain ⟨k, rfl⟩ : ∃ k, n = k + 1 := ⟨n - 1, by omega⟩
    simp [sortedV, List.replicate_succ, rowO]
  rw [this]
  rfl
end
end MX
end

section
set_option Elab.async false
set_option linter.all false
set_option maxRecDepth 100000
set_option maxHeartbeats 4000000
namespace MX
def dig (w n N : Nat) : List Nat := (List.range n).map fun k => (N >>> (w * k)) &&& ((1 <<< w) - 1)
def okN (t most melts : Nat) (m : List Nat) : Bool := decide (m = inOrder m) && (lawKeeps t m && lawKept t most melts [m] m)
theorem every1 : everyOf 1 = [0, 1] := ord_eq (m := [0, 1]) (by unfold POrd; decide +kernel)
theorem every2 : everyOf 2 = [0, 1, 3, 2] := by
  refine List.Perm.eq_of_pairwise (le := fun a b => ¬ tabletOf b < tabletOf a) ?_ (ord_in _) (by decide +kernel) ?_
  · intro a b ha hb h1 h2
    have ha : a ∈ [0, 1, 2, 3] := (inOrder_perm _).mem_iff.mp ha
    have sub : ∀ b ∈ [0, 1, 3, 2], b ∈ [0, 1, 2, 3] := by decide
    have hb := sub b hb
    have : ∀ a ∈ [0, 1, 2, 3], ∀ b ∈ [0, 1, 2, 3], ¬ tabletOf b < tabletOf a → ¬ tabletOf a < tabletOf b → a = b := by decide +kernel
    exact this a ha b hb h1 h2
  · exact (inOrder_perm _).trans (by decide +kernel)
def moreE (E : List Nat) (r : List Nat) : List (List Nat) := (E.filter (mayB r)).map fun m => r ++ [m]
def rowsE (E : List Nat) (n : Nat) : List (List Nat) := iter (fun f => f.flatMap (moreE E)) n [[]]
theorem rows_e {t : Nat} {E : List Nat} (h : everyOf t = E) (n : Nat) : sortedRows t n = rowsE E n := by
  subst h
  rfl
/-- what the eight cases are asked -/
structure Fits (t n : Nat) (R : List (List Nat)) : Prop where
  nd : ((List.range ((2 ^ t) ^ n)).map (dig t n)).Nodup
  to : ∀ m ∈ (List.range ((2 ^ t) ^ n)).map (dig t n), POrd m → m ∈ R
  of : ∀ m ∈ R, m ∈ (List.range ((2 ^ t) ^ n)).map (dig t n) ∧ POrd m
  lt : (R.map tabs).Pairwise (· < ·)
def pordB (m : List Nat) : Bool := decide (m.Pairwise fun a b => ¬ tabletOf b < tabletOf a)
def fitB (t n : Nat) (R : List (List Nat)) : Bool := decide ((List.range ((2 ^ t) ^ n)).map (dig t n)).Nodup && (((List.range ((2 ^ t) ^ n)).map (dig t n)).all fun m => !pordB m || decide (m ∈ R)) && (R.all fun m => decide (m ∈ (List.range ((2 ^ t) ^ n)).map (dig t n)) && pordB m) && decide ((R.map tabs).Pairwise (· < ·))
theorem Fits.of_b {t n : Nat} {R : List (List Nat)} (h : fitB t n R = true) : Fits t n R := by
  unfold fitB pordB at h
  simp only [Bool.and_eq_true, List.all_eq_true, decide_eq_true_eq, Bool.or_eq_true, Bool.not_eq_true', decide_eq_false_iff_not] at h
  obtain ⟨⟨⟨h1, h2⟩, h3⟩, h4⟩ := h
  exact ⟨h1, fun m hm o => (h2 m hm).resolve_left (fun z => z o), fun m hm => h3 m hm, h4⟩
theorem fits {t n : Nat} (h1 : 1 ≤ t) (h2 : t ≤ 2) (n1 : 1 ≤ n) (n4 : n ≤ 4) : Fits t n (sortedRows t n) := by
  have tt : t = 1 ∨ t = 2 := by omega
  have nn : n = 1 ∨ n = 2 ∨ n = 3 ∨ n = 4 := by omega
  rcases tt with rfl | rfl
  · rw [rows_e every1]
    rcases nn with rfl | rfl | rfl | rfl <;> exact .of_b (by decide +kernel)
  · rw [rows_e every2]
    rcases nn with rfl | rfl | rfl | rfl <;> exact .of_b (by decide +kernel)
theorem okN_iff {t n most melts : Nat} {m : List Nat} : okN t most melts m = true ↔ POrd m ∧ schemeB t most melts m = true := by
  unfold okN schemeB
  simp only [Bool.and_eq_true, decide_eq_true_eq]
  constructor
  · rintro ⟨e, k1, k2⟩
    have o : POrd m := e ▸ ord_in m
    exact ⟨o, (keeps_all t m) ▸ k1, (held_kept (fun x => Iff.rfl) o) ▸ k2⟩
  · rintro ⟨o, k1, k2⟩
    exact ⟨(ord_eq o).symm, (keeps_all t m).symm ▸ k1, (held_kept (fun x => Iff.rfl) o).symm ▸ k2⟩
theorem scheme_eq {t n most melts : Nat} (h1 : 1 ≤ t) (h2 : t ≤ 2) (n1 : 1 ≤ n) (n4 : n ≤ 4) (m1 : 1 ≤ melts) : sortM ((((List.range ((2 ^ t) ^ n)).map (dig t n)).filter (okN t most melts)).map tabs) = schemesOf t n most melts := by
  have F := fits h1 h2 n1 n4
  have e : schemesOf t n most melts = ((sortedRows t n).filter (schemeB t most melts)).map tabs := rfl
  rw [e]
  have nd : (sortedRows t n).Nodup := by
    have := F.lt
    rw [List.pairwise_map] at this
    refine this.imp fun {a b} q z => ?_
    subst z
    exact List.lt_irrefl _ q
  refine sort_uniq ?_ ?_
  · refine List.Perm.map _ ((List.perm_ext_iff_of_nodup (F.nd.filter _) (nd.filter _)).mpr fun m => ?_)
    rw [List.mem_filter, List.mem_filter, okN_iff (n := n)]
    constructor
    · rintro ⟨a, b, c⟩
      exact ⟨F.to m a b, c⟩
    · rintro ⟨a, c⟩
      exact ⟨(F.of m a).1, (F.of m a).2, c⟩
  · exact F.lt.sublist (List.Sublist.map _ List.filter_sublist)
end MX
end

section
set_option Elab.async false
set_option linter.all false
set_option maxRecDepth 100000
set_option maxHeartbeats 4000000
namespace MX
open PySem PySem.Spec PyProof.Rows L2
section
variable {P : Program} {w : World} {K : PySem.W.Frag} {mg : Str → Option Value} {base : Heap} {f c : Addr} {fd : FuncData}
abbrev st_law : Stmt := topS 57
abbrev N_law : List Str := ["_law_script", "_law_row", "_law_library_here", "_law_most", "_law_melts", "_law_texts", "_law_masks", "_law_told", "_law_due", "_law_same", "_law_there", "_law_bad", "_law_wide", "_law_many", "_law_found", "_law_number", "_law_some", "_law_one", "_law_tablet_here", "_law_value", "_law_k", "_law_mask_here"]
theorem sc_law : FnScope N_law ["_law_script"] (defScope st_law) := ⟨rfl, rfl, rfl, by decide +kernel, rfl, by decide +kernel, by decide +kernel⟩
abbrev lawX (P : Program) (w : World) (K : PySem.W.Frag) (mg : Str → Option Value) (base : Heap) (f c : Addr) (A : Around) (outer : List Env) (s : Shared) (H : Hp) : Cx := (cxOf CX0 P w K mg base N_law "law" (defScope st_law) f (.ref c) A outer s H E0).nox
/-- rows of numbers as libraries -/
abbrev TLibs (t : Nat) (H : Hp) (v : V) (m : List Nat) : Prop := Lib H v t (tabs m)
theorem add_one {i : Nat} {H : Hp} {Q : VK} (h : Q (nV (i + 1)) H) : rI0 (fun i j => .int (i + j)) (.int 1) (nV i) H Q := ⟨1, (i : Int), rfl, rfl, by
  show Q (V.int (1 + (i : Int))) H
  rw [Int.add_comm]
  exact h⟩
theorem min_n {r : Addr} (n : Nat) : [V.ref r, V.int (if (n : Int) < 2 then (n : Int) else 2)] = [V.ref r, nV (min 2 n)] := by
  have : (if (n : Int) < 2 then (n : Int) else 2) = ((min 2 n : Nat) : Int) := by
    split <;> omega
  rw [this]
theorem pow_256 {w n : Nat} (h : w ≤ 2) (hn : n ≤ 4) : (2 ^ w) ^ n ≤ 256 := by
  rw [← Nat.pow_mul]
  exact Nat.le_trans (Nat.pow_le_pow_right (by decide) (Nat.mul_le_mul h hn)) (by decide)
theorem pow_256' {w n : Nat} (h : w ≤ 2) (hn : n ≤ 2) : (2 ^ w) ^ n ≤ 16 := by
  rw [← Nat.pow_mul]
  exact Nat.le_trans (Nat.pow_le_pow_right (by decide) (Nat.mul_le_mul h hn)) (by decide)
theorem paired_map {t : Nat} {H : Hp} : ∀ {acc : List V} {L : List (List Nat)}, Paired (TLibs t H) acc L → Libs H t acc (L.map tabs)
  | _, _, .nil => .nil
  | _, _, .cons h p => .cons h (paired_map p)
theorem tab_small (m : Nat) : (tabletOf m).length ≤ 3 := by
  unfold tabletOf
  exact Nat.le_trans (List.length_filter_le _ _) (by rw [List.length_range]; exact Nat.le_refl _)
theorem schemes_len {t n most melts : Nat} (h2 : t ≤ 2) (n4 : n ≤ 4) : (schemesOf t n most melts).length ≤ 1000 := by
  unfold schemesOf
  rw [List.length_map]
  refine Nat.le_trans (List.length_filter_le _ _) (Nat.le_trans (srows_len t n) ?_)
  rw [Nat.shiftLeft_eq, Nat.one_mul]
  exact Nat.le_trans (pow_256 h2 n4) (by decide)
theorem schemes_small {t n most melts : Nat} (n4 : n ≤ 4) : ∀ l ∈ schemesOf t n most melts, l.length ≤ 1000 ∧ ∀ r ∈ l, r.length ≤ 1000 := by
  intro l hl
  unfold schemesOf at hl
  obtain ⟨m, hm, rfl⟩ := List.mem_map.mp hl
  have := srows_mem t n m (List.mem_filter.mp hm).1
  refine ⟨by rw [List.length_map, this]; omega, fun r hr => ?_⟩
  obtain ⟨x, hx, rfl⟩ := List.mem_map.mp hr
  exact Nat.le_trans (tab_small x) (by decide)
theorem shl_sub (w : Nat) : V.int (((1 <<< w : Nat) : Int) - 1) = nV ((1 <<< w) - 1) := by
  have : 1 ≤ 1 <<< w := by
    rw [Nat.shiftLeft_eq, Nat.one_mul]
    exact Nat.pow_pos (by decide)
  have e : ((1 <<< w : Nat) : Int) - (1 : Int) = (((1 <<< w) - 1 : Nat) : Int) := by omega
  rw [e]
theorem dig_at {w n N j : Nat} (h : j < n) : (dig w n N)[j]? = some ((N >>> (w * j)) &&& ((1 <<< w) - 1)) := by
  unfold dig
  rw [List.getElem?_map, List.getElem?_range h]
  rfl
theorem cmul_few (w j : Nat) (h : w + j < 1000000) : CMulW (w : Int) (0 + (j : Int)) := by
  have a := Nat.log2_le_self ((w : Int).natAbs)
  have b := Nat.log2_le_self ((0 + (j : Int)).natAbs)
  unfold CMulW
  omega
theorem dig_len (w n N : Nat) : (dig w n N).length = n := by unfold dig; rw [List.length_map, List.length_range]
theorem dig_fit (w n N : Nat) : Fit w n (dig w n N) := by
  refine ⟨dig_len w n N, fun x hx => ?_⟩
  unfold dig at hx
  obtain ⟨k, hk, rfl⟩ := List.mem_map.mp hx
  have p : 0 < 2 ^ w := Nat.pow_pos (by decide)
  rw [Nat.shiftLeft_eq, Nat.one_mul]
  exact Nat.lt_of_le_of_lt Nat.and_le_right (by omega)
theorem law_D {A : Around} {outer : List Env} {s : Shared} {H0 : Hp} (hr : Room 11 (A.deeper (envOfC "law" (defScope st_law) s.heap.objs.size f (.ref c)))) (B : Bi mg)
    (C_law_taken : Cal P w K mg base 1 "_law_taken" ["_law_row", "_law_many"] (sp_law_taken K)) (C_law_power : Cal P w K mg base 1 "_law_power" ["_law_number", "_law_many"] sp_law_power) (C_law_sorted : Cal P w K mg base 4 "_law_sorted" ["_law_masks"] sp_in_order) (C_law_keeps : Cal P w K mg base 2 "_law_keeps" ["_law_texts", "_law_masks"] sp_law_keeps) (C_law_is_kept : Cal P w K mg base 6 "_law_is_kept" ["_law_texts", "_law_masks", "_law_there", "_law_most", "_law_melts"] sp_law_is_kept) (C_law_tablet : Cal P w K mg base 1 "_law_tablet" ["_law_mask_here"] sp_tablet_of) (C_law_alike : Cal P w K mg base 6 "_law_alike" ["_law_found", "_law_due"] (sp_alike 4)) (C_flood_schemes : Cal P w K mg base 7 "flood_schemes" ["texts", "tablets", "most", "melts"] sp_flood_schemes) :
    ∃ t, PSs (lawX P w K mg base f c A outer s H0) ((defBody st_law).drop 16) t ∧ ∀ (D : Ends) (H : Hp) (sa r : Addr) (ns : List Int) (most : Nat) (o2 o4 o5 o6 o7 o8 o9 o10 o11 o12 o13 o14 o15 o16 : Option V), RowOk K sa ns H r → 1 ≤ most → most ≤ 3 → (∀ H', D.rt (.bl true) H') →
      t D [some (.ref sa), some (.ref r), o2, some (nV most), o4, o5, o6, o7, o8, o9, o10, o11, o12, o13, o14, o15, o16, none, none, none, none, none] H := by
  refine ⟨_, (pss_cons (ps_asg (pe_tup (pa_cons (pe_op op_add pe_int (pe_cal C_law_taken hr (by decide) (by rfl) (pa_cons (pv 1) (pa_cons pe_int pa_nil)))) (pa_cons (pe_op op_add pe_int (pe_cal C_law_taken hr (by decide) (by rfl) (pa_cons (pv 1) (pa_cons pe_int pa_nil)))) (pa_cons (pe_lst pa_nil) pa_nil)))) (pg_tupK K (n := 3) (hc := rfl) (h := (pgs_cons (pg_name (i := 12) sc_law.nd rfl (by first | exact Or.inl rfl | exact Or.inr rfl)) (pgs_cons (pg_name (i := 13) sc_law.nd rfl (by first | exact Or.inl rfl | exact Or.inr rfl)) (pgs_cons (pg_name (i := 14) sc_law.nd rfl (by first | exact Or.inl rfl | exact Or.inr rfl)) pgs_nil))))))
  (pss_cons (ps_set (i := 4) sc_law.nd rfl (Or.inr rfl) (pe_op op_add pe_int (pe_cal C_law_taken hr (by decide) (by rfl) (pa_cons (pv 1) (pa_cons (pe_callB (call_min2 rfl) (by rfl) B.min boot_min (pa_cons pe_int (pa_cons (pv 13) pa_nil))) pa_nil)))))
  (pss_cons (ps_for PassesOwn.never rfl (pi_range1 (by rfl) B.range (pa_cons (pe_cal C_law_power hr (by decide) (by rfl) (pa_cons (pe_op op_shlNN pe_int (pv 12)) (pa_cons (pv 13) pa_nil))) pa_nil)) (pg_name (i := 15) sc_law.nd rfl (by first | exact Or.inl rfl | exact Or.inr rfl)) (pss_cons (ps_set (i := 16) sc_law.nd rfl (Or.inl rfl) (pe_callTy (call_tuple_ofK K) (by rfl) B.tuple boot_tuple (pa_cons (pe_lc (own := [("_law_k", 20)]) rfl sc_law.nd (pi_range1 (by rfl) B.range (pa_cons (pv 13) pa_nil)) (blkOk_by (own := [("_law_k", 20)]) (N := N_law) (sc := defScope st_law) (by decide +kernel)) (fun _ _ _ _ _ => (pg_name (i := 20) sc_law.nd rfl (by first | exact Or.inl rfl | exact Or.inr rfl))) (fun _ _ _ _ _ => pts_nil) (fun _ _ _ _ _ => (pe_op op_andN (pe_op op_shrNN (pv 15) (pe_op op_mulW (pv 12) (pv 20))) (pe_op op_sub (pe_op op_shlNN pe_int (pv 12)) pe_int)))) pa_nil)))
  (pss_one (ps_if (PW.pt (pw_and (pt_cmpR (op_eqDK K (hu := hr.units)) (pv 16) (pe_cal C_law_sorted hr (by decide) (by rfl) (pa_cons (pv 16) pa_nil)) (nomark _)) (pw_and (pt_val (pe_cal C_law_keeps hr (by decide) (by rfl) (pa_cons (pv 12) (pa_cons (pv 16) pa_nil)))) (pw_and1 (pt_val (pe_cal C_law_is_kept hr (by decide) (by rfl) (pa_cons (pv 12) (pa_cons (pv 16) (pa_cons (pe_lst (pa_cons (pv 16) pa_nil)) (pa_cons (pv 3) (pa_cons (pv 4) pa_nil))))))))))) (pss_one (ps_expr (pe_bm PySem.F.plainAttrs_list PySem.F.slot_list_append PySem.F.type_list_append mt_append (pv 14) (pa_cons (pe_tup (pa_cons (pv 12) (pa_cons (pe_callTy (call_tuple_ofK K) (by rfl) B.tuple boot_tuple (pa_cons (pe_lc (own := [("_law_mask_here", 21)]) rfl sc_law.nd (pi_tupK K (hl := (pv 16))) (blkOk_by (own := [("_law_mask_here", 21)]) (N := N_law) (sc := defScope st_law) (by decide +kernel)) (fun _ _ _ _ _ => (pg_name (i := 21) sc_law.nd rfl (by first | exact Or.inl rfl | exact Or.inr rfl))) (fun _ _ _ _ _ => pts_nil) (fun _ _ _ _ _ => (pe_cal C_law_tablet hr (by decide) (by rfl) (pa_cons (pv 21) pa_nil)))) pa_nil)) pa_nil))) pa_nil)))) pss_nil))))
  (pss_one (ps_ret (pe_cal C_law_alike hr (by decide) (by rfl) (pa_cons (pe_cal C_flood_schemes hr (by decide) (by rfl) (pa_cons (pv 12) (pa_cons (pv 13) (pa_cons (pv 3) (pa_cons (pv 4) pa_nil))))) (pa_cons (pe_callTy (call_tuple_ofK K) (by rfl) B.tuple boot_tuple (pa_cons (pe_callB (cr_sortCK K (hc := (cl_seqK K)) (hu := un_of hr (by decide))) (by rfl) B.sorted boot_sorted (pa_cons (pv 14) pa_nil)) pa_nil)) pa_nil)))))))), ?_⟩
  intro D H sa r ns most o2 o4 o5 o6 o7 o8 o9 o10 o11 o12 o13 o14 o15 o16 ro h1 h2 k
  have tr : ∀ {A B C : Hp}, Kp (off r A) B → Kp (off r B) C → Kp (off r A) C := fun a b => (kp_to_off a off_same).trans b
  refine ⟨_, rfl, rfl, sa, ns, r, 2, rfl, ro, by decide, by decide, ?_⟩
  intro H1 i1 k1 ro1 hi1
  refine add_one ?_
  refine ⟨_, rfl, rfl, sa, ns, r, 4, rfl, ro1, by decide, by decide, ?_⟩
  intro H2 i2 k2 ro2 hi2
  refine add_one ?_
  obtain ⟨w1, hw1⟩ : ∃ w1, w1 = i1 + 1 := ⟨_, rfl⟩
  obtain ⟨n, hn⟩ : ∃ n, n = i2 + 1 := ⟨_, rfl⟩
  have w12 : 1 ≤ w1 ∧ w1 ≤ 2 := by omega
  have n14 : 1 ≤ n ∧ n ≤ 4 := by omega
  rw [← hw1, ← hn]
  clear hw1 hn hi1 hi2
  refine ⟨Nat.zero_le _, fun d hd => ⟨by show 3 ≤ sizeLine; decide, fun p hp => ?_⟩⟩
  have kd : Kp H2 (upd H2 d (.lst [])) := Kp.new hd
  have kp : Kp (upd H2 d (.lst [])) (upd (upd H2 d (.lst [])) p (.tup [nV w1, nV n, .ref d])) := Kp.new hp
  refine ⟨p, _, rfl, SqT.of upd_same, rfl, _, _, rfl, _, _, rfl, _, _, rfl, rfl, ?_⟩
  have ed : (upd (upd H2 d (.lst [])) p (.tup [nV w1, nV n, .ref d])) d = some (.lst []) := kp.lst upd_same
  have ro4 := (ro2.kp kd).kp kp
  generalize upd (upd H2 d (.lst [])) p (.tup [nV w1, nV n, .ref d]) = H4 at *
  have ndr : d ≠ r := by
    obtain ⟨xs, e⟩ := ro2.lst
    rintro rfl
    rw [hd] at e
    cases e
  refine ⟨_, rfl, _, rfl, 2, (n : Int), rfl, rfl, sa, ns, r, min 2 n, min_n n, ro4, by omega, by omega, ?_⟩
  intro H5 i5 k5 ro5 hi5
  refine add_one ?_
  have ed5 := off_lst k5 ndr ed
  obtain ⟨melts, hm⟩ : ∃ melts, melts = i5 + 1 := ⟨_, rfl⟩
  have m12 : 1 ≤ melts ∧ melts ≤ 2 ∧ melts ≤ n := by omega
  rw [← hm]
  clear hm hi5
  refine ⟨_, rfl, w1, rfl, rfl, by omega, _, rfl, rfl, (1 <<< w1, n), ⟨rfl, ?_, n14.2⟩, ?_⟩
  · rw [Nat.shiftLeft_eq, Nat.one_mul]
    exact Nat.le_trans (Nat.pow_le_pow_right (by decide) w12.2) (by decide)
  rintro _ H6 k6 rfl
  have ed6 := k6.lst ed5
  obtain ⟨N, hN⟩ : ∃ N, N = (1 <<< w1) ^ n := ⟨_, rfl⟩
  have N256 : N ≤ 256 := by
    rw [hN, Nat.shiftLeft_eq, Nat.one_mul]
    exact pow_256 w12.2 n14.2
  refine ⟨((1 <<< w1) ^ n : Nat), rfl, by omega, by omega, ?_⟩
  rw [Int.toNat_natCast, ← hN]
  refine for_range (lo := 0) (n := N) (fun i σ H' => ∃ acc o15 o16, σ = [some (.ref sa), some (.ref r), o2, some (nV most), some (nV melts), o5, o6, o7, o8, o9, o10, o11, some (nV w1), some (nV n), some (.ref d), o15, o16, none, none, none, none, none] ∧ H' d = some (.lst acc) ∧ Paired (TLibs w1 H') acc (((List.range i).map (dig w1 n)).filter (okN w1 most melts))) ⟨[], _, _, rfl, ed6, .nil⟩ ?_ ?_
  · rintro i σ H7 hi ⟨acc, o15', o16', rfl, ed7, pr7⟩
    refine ⟨_, rfl, (n : Int), rfl, by omega, by omega, fun E hE => ?_⟩
    rw [Int.toNat_natCast]
    refine lc_range (lo := 0) (n := n) (fun j H8 => AccI H7 E (fun _ v (n : Nat) => v = nV n) ((dig w1 n i).take j) H8) (AccI.zero hE) ?_ ?_
    · intro j H8 hj I
      refine ⟨rfl, ?_⟩
      refine ⟨_, rfl, _, rfl, _, rfl, (w1 : Int), _, rfl, rfl, ?_, i, w1 * j, (by show V.int (0 + _) = _; rw [Int.zero_add]), (by show V.int ((w1 : Int) * (0 + (j : Int))) = V.int ((w1 * j : Nat) : Int); rw [Int.zero_add, Int.natCast_mul]), _, rfl, w1, rfl, rfl, by omega, _, _, rfl, rfl, _, (1 <<< w1) - 1, rfl, shl_sub w1, ?_⟩
      · exact cmul_few w1 j (by omega)
      · exact I.push stab_nv hE (Kp.refl _) rfl (sl (by rw [List.length_take]; omega)) (take_more (dig_at hj))
    · rintro H8 ⟨k8, acc8, hacc8, p8⟩
      obtain rfl := nv_vals p8
      have ft := dig_fit w1 n i
      rw [List.take_of_length_le (by rw [ft.1]; exact Nat.le_refl _)] at hacc8 p8
      have suc : ((List.range (i + 1)).map (dig w1 n)) = (List.range i).map (dig w1 n) ++ [dig w1 n i] := by
        rw [List.range_succ, List.map_append]
        rfl
      rw [suc]
      clear suc p8
      generalize dig w1 n i = m at *
      refine ⟨_, _, rfl, .inl ⟨SqL.of hacc8, fun q hq => ?_⟩⟩
      have kq : Kp H8 (upd H8 q (.tup (m.map nV))) := Kp.new hq
      have it9 : IT (upd H8 q (.tup (m.map nV))) (.ref q) m := ⟨q, rfl, upd_same⟩
      have k9 := k8.trans kq
      generalize upd H8 q (.tup (m.map nV)) = H9 at *
      have stay : ∀ H', Kp H7 H' → okN w1 most melts m = false → H' d = some (.lst acc) ∧ Paired (TLibs w1 H') acc (((List.range i).map (dig w1 n) ++ [m]).filter (okN w1 most melts)) := fun H' k' e => by
        rw [fil_no e]
        exact ⟨k'.lst ed7, Paired.mono (fun _ _ z => z.tk k'.tk) pr7⟩
      refine ⟨_, rfl, _, rfl, rfl, m, ⟨_, rfl, .inl it9⟩, ?_⟩
      intro v H10 k10 it10
      refine ⟨tD m, tD (inOrder m), (it9.kp k10).dp, it10.dp, shp_t _, shp_t _, _, rfl, ?_⟩
      rw [eqv_t]
      have k7_10 := k9.trans k10
      have it10' := it9.kp k10
      clear it10
      refine ite_b (fun hb => ?_) (fun hb => ifF rfl ?_)
      · refine ⟨_, rfl, _, rfl, rfl, (w1, m), ⟨_, rfl, it10', by have := ft.1; show m.length ≤ 5; omega, by show w1 ≤ 9; omega⟩, ?_⟩
        rintro _ H11 k11 rfl
        refine ⟨_, rfl, ite_b (fun hb2 => ?_) fun hb2 => ifF rfl ?_⟩
        · refine ⟨_, rfl, _, rfl, _, rfl, by show 1 ≤ sizeLine; decide, fun e he => ?_⟩
          have it11 := it10'.kp k11
          have ke : Kp H11 (upd H11 e (.lst [.ref q])) := Kp.new he
          refine ⟨_, rfl, _, rfl, rfl, ((w1, most, melts), m, [m]), ⟨_, _, rfl, it11.kp ke, ⟨e, _, rfl, upd_same, .cons (it11.kp ke) .nil⟩, by rw [ft.1]; exact ft, ?_, h2⟩, ?_⟩
          · have l := ft.1
            refine ⟨by show m.length ≤ 5; omega, m12.2.1, by show melts ≤ m.length; omega, fun _ => ?_, by show w1 ≤ 9; omega⟩
            exact Nat.lt_of_le_of_lt (pow_256' w12.2 m12.2.1) (by decide)
          rintro _ H12 k12 rfl
          have k7_12 := ((k7_10.trans k11).trans ke).trans k12
          have it12 := (it11.kp ke).kp k12
          refine ⟨_, rfl, ite_b (fun hb3 => ?_) fun hb3 => ?_⟩
          · have good : okN w1 most melts m = true := by
              unfold okN
              rw [hb, hb2, hb3]
              rfl
            have ed12 := k7_12.lst ed7
            have pr12 : Paired (TLibs w1 H12) acc (((List.range i).map (dig w1 n)).filter (okN w1 most melts)) := Paired.mono (fun _ _ z => z.tk k7_12.tk) pr7
            have sz : acc.length ≤ 256 := by
              have e1 := List.length_filter_le (okN w1 most melts) ((List.range i).map (dig w1 n))
              rw [List.length_map, List.length_range] at e1
              rw [pr12.length]
              omega
            obtain ⟨q2, hq2, em⟩ := it12
            refine ⟨_, rfl, .inl ⟨rfl, _, SqL.of ed12⟩, _, rfl, _, rfl, q2, hq2, ⟨_, SqT.of em⟩, fun F hF => ?_⟩
            refine turns_tup (xs := m.map nV) (fun j H' => AccI H12 F IT ((m.take j).map tabletOf) H') (AccI.zero hF) (fun j H' I => SqT.of (I.1.tup em)) ?_ ?_
            · intro j y H13 hy I
              obtain ⟨x, hx, rfl⟩ := map_at hy
              refine ⟨rfl, ?_⟩
              refine ⟨_, rfl, rfl, x, rfl, ?_⟩
              intro v H14 k14 itv
              exact I.push stab_it hF k14 itv (sl (by have := ft.1; rw [List.length_map, List.length_take]; omega)) (by rw [take_more hx, List.map_append]; rfl)
            · rintro H13 ⟨k13, accF, haccF, pF⟩
              rw [List.map_take, List.take_of_length_le (by rw [List.length_map, List.length_map]; exact Nat.le_refl _)] at pF
              refine ⟨_, _, rfl, .inl ⟨SqL.of haccF, fun u hu => ?_⟩⟩
              have ku : Kp H13 (upd H13 u (.tup accF)) := Kp.new hu
              refine ⟨by show 2 ≤ sizeLine; decide, fun z hz => ?_⟩
              have kz : Kp (upd H13 u (.tup accF)) (upd (upd H13 u (.tup accF)) z (.tup [nV w1, .ref u])) := Kp.new hz
              have kk := (k13.trans ku).trans kz
              have libz : Lib (upd (upd H13 u (.tup accF)) z (.tup [nV w1, .ref u])) (.ref z) w1 (tabs m) := ⟨z, u, accF, rfl, upd_same, kz.tup upd_same, ITs.tk pF (ku.tk.trans kz.tk)⟩
              generalize upd (upd H13 u (.tup accF)) z (.tup [nV w1, .ref u]) = H15 at *
              have ed15 := kk.lst ed12
              have t15 : Tk H15 (upd H15 d (.lst (acc ++ [.ref z]))) := Tk.lst ed15
              refine ⟨d, acc, .ref z, rfl, rfl, ed15, sl (by omega), acc ++ [.ref z], _, _, rfl, upd_same, ?_⟩
              rw [fil_yes good]
              exact Paired.app (Paired.mono (fun _ _ z => z.tk (kk.tk.trans t15)) pr12) (.cons (libz.tk t15) .nil)
          · exact ⟨acc, _, _, rfl, stay _ k7_12 (by unfold okN; rw [hb, hb2, hb3]; rfl)⟩
        · exact ⟨acc, _, _, rfl, stay _ (k7_10.trans k11) (by unfold okN; rw [hb, hb2]; rfl)⟩
      · exact ⟨acc, _, _, rfl, stay _ k7_10 (by unfold okN; rw [hb]; rfl)⟩
  · rintro σ H7 ⟨acc, o15', o16', rfl, ed7, pr7⟩
    have sch : sortM ((((List.range N).map (dig w1 n)).filter (okN w1 most melts)).map tabs) = schemesOf w1 n most melts := by
      rw [hN, Nat.shiftLeft_eq, Nat.one_mul]
      exact scheme_eq w12.1 w12.2 n14.1 n14.2 m12.1
    refine ⟨_, rfl, _, rfl, _, rfl, _, rfl, rfl, (w1, n, most, melts), ⟨rfl, w12.1, by show w1 ≤ 3; omega, n14.1, n14.2, h1, h2, m12.1, by show melts ≤ 3; omega, m12.2.2⟩, ?_⟩
    intro v H8 k8 fam
    obtain ⟨a, vs, rfl, ea, pa⟩ := fam
    have pr8 : Libs H8 w1 acc ((((List.range N).map (dig w1 n)).filter (okN w1 most melts)).map tabs) := (paired_map pr7).tk k8.tk
    refine ⟨_, rfl, _, rfl, d, _, rfl, .inl (SqL.of (k8.lst ed7)), _, pr8.dp, srt_lib w1 _, fun p' hp' => ?_⟩
    refine ⟨p', _, rfl, .inl ⟨SqL.of upd_same, fun q' hq' => ?_⟩⟩
    have k9 : Kp H8 (upd H8 p' (.lst (sortV acc (((((List.range N).map (dig w1 n)).filter (okN w1 most melts)).map tabs).map (libD w1))))) := Kp.new hp'
    have k10 : Kp (upd H8 p' (.lst (sortV acc (((((List.range N).map (dig w1 n)).filter (okN w1 most melts)).map tabs).map (libD w1))))) (upd (upd H8 p' (.lst (sortV acc (((((List.range N).map (dig w1 n)).filter (okN w1 most melts)).map tabs).map (libD w1))))) q' (.tup (sortV acc (((((List.range N).map (dig w1 n)).filter (okN w1 most melts)).map tabs).map (libD w1))))) := Kp.new hq'
    have ps := (sortV_lib pr8).tk (k9.tk.trans k10.tk)
    rw [sch] at ps
    refine ⟨rfl, .inr ⟨_, _, rfl, same_libs ((k9.trans k10).tup ea) upd_same (pa.tk (k9.tk.trans k10.tk)) ps ?_ ?_, fun H' _ => k H'⟩⟩
    · exact schemes_len w12.2 n14.2
    · exact schemes_small n14.2
end
end MX
end

section
set_option Elab.async false
set_option linter.all false
set_option maxRecDepth 100000
set_option maxHeartbeats 4000000
namespace MX
/-! ### few libraries are told -/
theorem pord_b {m : List Nat} (h : POrd m) : pordB m = true := by
  unfold pordB
  exact decide_eq_true h
def goodB (m : List Nat) : Bool := pordB m && (cuts m).all (hasAll 3)
theorem univ2 {n : Nat} (h : n ≤ 5) : ((univ 4 n).filter pordB).length ≤ 56 := by
  have nn : n = 0 ∨ n = 1 ∨ n = 2 ∨ n = 3 ∨ n = 4 ∨ n = 5 := by omega
  rcases nn with rfl | rfl | rfl | rfl | rfl | rfl <;> decide +kernel
theorem univ3 : ((univ 8 4).filter goodB).length ≤ 56 := by decide +kernel
theorem cut_there {m : List Nat} (h : 0 < m.length) : m.drop 1 ∈ cuts m := by
  unfold cuts
  exact List.mem_map.mpr ⟨0, List.mem_range.mpr h, by simp⟩
theorem left_there {m : List Nat} : ∀ i, i ≤ m.length → ∃ y ∈ iter chosenStep i [m], y.length = m.length - i
  | 0, _ => ⟨m, List.mem_singleton.mpr rfl, rfl⟩
  | i + 1, h => by
    obtain ⟨y, hy, e⟩ := left_there (m := m) i (by omega)
    refine ⟨y.drop 1, cho_mem.mpr ⟨y, hy, cut_there (by omega)⟩, ?_⟩
    rw [List.length_drop, e]
    omega
section
variable {t n most melts : Nat} {first : List Nat} {S : List (List Nat)} (F : Fam t n most melts first S)
include F
theorem Fam.all {m left : List Nat} (hm : m ∈ S) (hl : left ∈ iter chosenStep melts [m]) : hasAll t left = true := by
  obtain ⟨l, e, _⟩ := F.keep m hm _ (List.mem_map.mpr ⟨left, sort_mem.mpr hl, rfl⟩)
  cases h : hasAll t left with
  | true => rfl
  | false => rw [h] at e; cases e
theorem Fam.few (h5 : n ≤ 5) (h4 : t = 3 → n ≤ 4) (m1 : 1 ≤ melts) (mn : melts ≤ n) : S.length < 64 := by
  have tt : t ≤ 1 ∨ t = 2 ∨ t = 3 := by have := F.t3; omega
  rcases tt with h | rfl | rfl
  · refine Nat.lt_of_le_of_lt (keys_le F.nd F.fit) ?_
    have : (2 ^ t) ^ n ≤ (2 ^ 1) ^ 5 := Nat.le_trans (Nat.pow_le_pow_left (Nat.pow_le_pow_right (by decide) h) n) (Nat.pow_le_pow_right (by decide) h5)
    exact Nat.lt_of_le_of_lt this (by decide)
  · refine Nat.lt_of_le_of_lt (nodup_len S ((univ 4 n).filter pordB) F.nd fun m hm => List.mem_filter.mpr ⟨univ_mem (F.fit m hm).1 (F.fit m hm).2, pord_b (F.ord m hm)⟩) (Nat.lt_of_le_of_lt (univ2 h5) (by decide))
  · have n4 := h4 rfl
    have l0 := (F.fit first F.fst).1
    obtain ⟨y, hy, e⟩ := left_there (m := first) melts (by omega)
    have ha := F.all F.fst hy
    have sl := span_len y [0]
    have hl : (spanF y).length = 1 <<< 3 := by
      unfold hasAll at ha
      exact of_decide_eq_true ha
    have e3 : 3 ≤ n - melts := by
      by_cases q : 3 ≤ n - melts
      · exact q
      · have p : 2 ^ y.length ≤ 2 ^ 2 := Nat.pow_le_pow_right (by decide) (by omega)
        have hl' : (y.foldl spanStep [0]).length = 8 := hl
        have p' : 2 ^ y.length ≤ 4 := p
        rw [hl'] at sl
        simp only [List.length_singleton] at sl
        omega
    obtain rfl : n = 4 := by omega
    obtain rfl : melts = 1 := by omega
    refine Nat.lt_of_le_of_lt (nodup_len S ((univ 8 4).filter goodB) F.nd fun m hm => List.mem_filter.mpr ⟨univ_mem (F.fit m hm).1 (F.fit m hm).2, ?_⟩) (Nat.lt_of_le_of_lt univ3 (by decide))
    unfold goodB
    rw [Bool.and_eq_true]
    refine ⟨pord_b (F.ord m hm), List.all_eq_true.mpr fun left hl => F.all hm ?_⟩
    exact cho_mem.mpr ⟨m, List.mem_singleton.mpr rfl, hl⟩
end
end MX
end

section
set_option Elab.async false
set_option linter.all false
set_option maxRecDepth 100000
set_option maxHeartbeats 4000000
namespace MX
open PySem PySem.Spec PyProof.Rows L2
theorem sml_tab {m : Nat} (h : m < 8) : Sml (tabletOf m) := by
  refine ⟨?_, fun k hk => ?_⟩
  · have := List.length_filter_le (fun t => (m >>> t) &&& 1 != 0) (List.range 3)
    rw [List.length_range] at this
    exact Nat.le_trans this (by decide)
  · have := List.mem_range.mp (List.mem_filter.mp hk).1
    omega
theorem shp_libs (t : Nat) (l : List (List (List Nat))) : SeqAt.shaped (.list (l.map (libD t))) = true := by
  unfold SeqAt.shaped
  rw [Bool.and_eq_true, decide_eq_true_eq]
  refine ⟨?_, ?_⟩
  · unfold PyData.canLay0
    refine lay_all (libD t) (fun x => ?_) l
    show (true && (PyData.canLayAll0 (x.map tD) && true)) = true
    rw [lay_all tD lay_t x]
    rfl
  · unfold PyData.depth
    have := dep_all (libD t) 3 (fun x => dep_lib t x) l
    omega
theorem eqv_libs (t : Nat) : ∀ a b : List (List (List Nat)), PyData.eqvAll (a.map (libD t)) (b.map (libD t)) = decide (a = b)
  | [], [] => rfl
  | [], _ :: _ => rfl
  | _ :: _, [] => rfl
  | x :: a, y :: b => by
    rw [List.map_cons, List.map_cons]
    show (PyData.eqv (libD t x) (libD t y) && PyData.eqvAll _ _) = _
    rw [eqv_libs t a b, eqv_lib]
    by_cases h : x = y
    · subst h
      simp
    · simp [h]
theorem any_in (L : List (List Nat)) (m : List Nat) : ((L.map tD).any fun z => PyData.eqv z (tD m)) = decide (m ∈ L) := by
  induction L with
  | nil => rfl
  | cons x L ih =>
    rw [List.map_cons, List.any_cons, ih, eqv_t]
    by_cases h : x = m
    · subst h
      simp
    · have : m ≠ x := fun z => h z.symm
      simp [h, this]
def lawIn (st : Stmt) : Scope := match List.drop 10 (defBody st) with
  | .Assign _ (.ListComp _ _ sc _) _ :: _ => sc
  | _ => default
section
variable {P : Program} {w : World} {K : PySem.W.Frag} {mg : Str → Option Value} {base : Heap} {f c : Addr} {fd : FuncData}
theorem law_C1 {A : Around} {outer : List Env} {s : Shared} {H0 : Hp} (hr : Room 11 (A.deeper (envOfC "law" (defScope st_law) s.heap.objs.size f (.ref c)))) (B : Bi mg)
    (C_law_mask : Cal P w K mg base 1 "_law_mask" ["_law_tablet_here"] sp_mask_of) (C_law_is_kept : Cal P w K mg base 6 "_law_is_kept" ["_law_texts", "_law_masks", "_law_there", "_law_most", "_law_melts"] sp_law_is_kept)
    {tD2 : TS} (hD : PSs (lawX P w K mg base f c A outer s H0) ((defBody st_law).drop 13) tD2) :
    ∃ t, PSs (lawX P w K mg base f c A outer s H0) ((defBody st_law).drop 10) t ∧ ∀ (D : Ends) (H : Hp) (v1 : Option V) (v2 v6 : V) (p7 : Addr) (vs7 : List V) (t' n most melts : Nat) (first : List Nat) (S : List (List Nat)) (o0 o8 o9 o10 o11 o12 o13 o14 o15 o16 : Option V),
      Fam t' n most melts first S → Few t' n melts → S.length < 64 → most ≤ 3 → IT H v6 first → H p7 = some (.tup vs7) → Libs H t' vs7 (toldOf S) →
      (∀ H' v10, Kp H H' → tD2 D [o0, v1, some v2, some (nV most), some (nV melts), some (nV t'), some v6, some (.ref p7), o8, o9, v10, o11, o12, o13, o14, o15, o16, none, none, none, none, none] H') →
      t D [o0, v1, some v2, some (nV most), some (nV melts), some (nV t'), some v6, some (.ref p7), o8, o9, o10, o11, o12, o13, o14, o15, o16, none, none, none, none, none] H := by
  refine ⟨_, (pss_cons (ps_set (i := 10) sc_law.nd rfl (Or.inr rfl) (pe_lc (own := [("_law_one", 17)]) rfl sc_law.nd (pi_tupK K (hl := (pv 7))) (blkOk_by (own := [("_law_one", 17)]) (N := N_law) (sc := defScope st_law) (by decide +kernel)) (fun _ _ _ _ _ => (pg_name (i := 17) sc_law.nd rfl (by first | exact Or.inl rfl | exact Or.inr rfl))) (fun _ _ _ _ _ => pts_nil) (fun _ _ _ _ _ => (pe_callTy (call_tuple_ofK K) (by rfl) B.tuple boot_tuple (pa_cons (pe_lc (own := [("_law_tablet_here", 18)]) rfl sc_law.nd (pi_tupK K (hl := (pe_ix (ix_tupK K) (pv 17) pe_int (fun _ _ => rfl)))) (blkOk_by (own := [("_law_tablet_here", 18)]) (N := N_law) (sc := relS (lawIn st_law) (defScope st_law)) (by decide +kernel)) (fun _ _ _ _ _ => (pg_name (i := 18) sc_law.nd rfl (by first | exact Or.inl rfl | exact Or.inr rfl))) (fun _ _ _ _ _ => pts_nil) (fun _ _ _ _ _ => (pe_cal C_law_mask hr (by decide) (by rfl) (pa_cons (pv 18) pa_nil)))) pa_nil)))))
  (pss_cons (ps_if (PW.pt (pw_or (pt_cmpR (op_notInDK K (hu := un_of hr (by decide))) (pv 6) (pv 10) (by rfl)) (pw_or1 (pt_cmpR (op_neDK K (hu := hr.units)) (pe_callTy (call_list_ofK K) (by rfl) B.list boot_list (pa_cons (pv 7) pa_nil)) (pe_callB (cr_sortCK K (hc := (cl_setNK w rfl rfl)) (hu := un_of hr (by decide))) (by rfl) B.sorted boot_sorted (pa_cons (pe_callTy (cr_setNK K (w := w) (hw := rfl) (hc := rfl) (hu := un_of hr (by decide))) (by rfl) B.set boot_set (pa_cons (pv 7) pa_nil)) pa_nil)) (nomark _))))) (pss_one (ps_ret pe_bl)) pss_nil)
  (pss_cons (ps_if (pt_cmpR (op_neDK K (hu := hr.units)) (pe_lc (own := [("_law_one", 17)]) rfl sc_law.nd (pi_listK K (hl := (pv 10))) (blkOk_by (own := [("_law_one", 17)]) (N := N_law) (sc := defScope st_law) (by decide +kernel)) (fun _ _ _ _ _ => (pg_name (i := 17) sc_law.nd rfl (by first | exact Or.inl rfl | exact Or.inr rfl))) (fun _ _ _ _ _ => (pts_one (pt_not (pt_val (pe_cal C_law_is_kept hr (by decide) (by rfl) (pa_cons (pv 5) (pa_cons (pv 17) (pa_cons (pv 10) (pa_cons (pv 3) (pa_cons (pv 4) pa_nil)))))))))) (fun _ _ _ _ _ => (pv 17))) (pe_lst pa_nil) (nomark _)) (pss_one (ps_ret pe_bl)) pss_nil)
  hD))), ?_⟩
  intro D H v1 v2 v6 p7 vs7 t n most melts first S o0 o8 o9 o10 o11 o12 o13 o14 o15 o16 fam few s64 h2 i6 e7 l7 k
  have s7 := l7.length
  have tS : (toldOf S).length = S.length := by
    unfold toldOf
    rw [(sortM_perm _).length_eq, List.length_map]
  refine ⟨_, rfl, p7, rfl, ⟨_, SqT.of e7⟩, fun D1 hD1 => ?_⟩
  refine turns_tup (xs := vs7) (fun j H' => AccI H D1 IT (((toldOf S).take j).map msks) H') (AccI.zero hD1) (fun j H' I => SqT.of (I.1.tup e7)) ?_ ?_
  · intro j y H1 hy I
    obtain ⟨L, hL, ly⟩ := Paired.at' l7 hy
    obtain ⟨m, hm, rfl⟩ := fam.told_mem.mp (List.mem_of_getElem? hL)
    obtain ⟨a, b, ws, rfl, ea, eb, its⟩ := ly.kp I.1
    have ft := fam.fit m hm
    have f8 := fit8 fam.t3 ft
    refine ⟨rfl, ?_⟩
    refine ⟨_, rfl, a, _, 1, .ref b, rfl, rfl, SqT.of ea, atI_nat (j := 1) rfl, b, rfl, ⟨_, SqT.of eb⟩, fun D2 hD2 => ?_⟩
    refine turns_tup (xs := ws) (fun i H' => AccI H1 D2 (fun _ v (n : Nat) => v = nV n) (((tabs m).take i).map maskOf) H') (AccI.zero hD2) (fun i H' I => SqT.of (I.1.tup eb)) ?_ ?_
    · intro i z H2 hz I2
      obtain ⟨row, hrow, iz⟩ := Paired.at' its hz
      have sm : Sml row := by
        obtain ⟨x, hx, rfl⟩ := List.mem_map.mp (List.mem_of_getElem? hrow)
        exact sml_tab (f8 x hx)
      refine ⟨rfl, ?_⟩
      refine ⟨_, rfl, rfl, row, ⟨z, rfl, iz.kp I2.1, sm⟩, ?_⟩
      rintro _ H3 k3 rfl
      refine I2.push stab_nv hD2 k3 rfl (sl (by rw [List.length_map, List.length_take]; unfold tabs; rw [List.length_map]; have := ft.1; have := few.n5; omega)) (by rw [take_more hrow, List.map_append]; rfl)
    · rintro H2 ⟨k2, acc, hacc, pr⟩
      rw [its.length, List.take_length] at pr
      obtain rfl := nv_vals pr
      refine ⟨_, _, rfl, .inl ⟨SqL.of hacc, fun q hq => ?_⟩⟩
      have kq : Kp H2 (upd H2 q (.tup (((tabs m).map maskOf).map nV))) := Kp.new hq
      exact I.push stab_it hD1 (k2.trans kq) ⟨q, rfl, upd_same⟩ (sl (by rw [List.length_map, List.length_take]; omega)) (by rw [take_more hL, List.map_append]; rfl)
  · rintro H1 ⟨k1, acc, hacc, pr⟩
    rw [s7, List.take_length] at pr
    have th := fam.fst_there
    refine ⟨_, rfl, _, rfl, tD first, _, (i6.kp k1).dp, .lst (SqL.of hacc) (ITs.dp pr), shp_t _, shp_ts _, _, rfl, ?_⟩
    rw [any_in, decide_eq_true th]
    refine ifF rfl ?_
    refine ⟨_, rfl, p7, _, rfl, .inr (SqT.of (k1.tup e7)), fun q hq => ?_⟩
    have kq : Kp H1 (upd H1 q (.lst vs7)) := Kp.new hq
    have k12 := k1.trans kq
    have eq2 : (upd H1 q (.lst vs7)) q = some (.lst vs7) := upd_same
    have hacc2 := kq.lst hacc
    have pr2 : ITs (upd H1 q (.lst vs7)) acc ((toldOf S).map msks) := ITs.tk pr kq.tk
    have l72 : Libs (upd H1 q (.lst vs7)) t vs7 (toldOf S) := l7.tk k12.tk
    generalize upd H1 q (.lst vs7) = H2 at *
    refine ⟨_, rfl, ?_⟩
    show rSetN K w [V.ref p7] H2 fun y H1 => rSortC K (cSetN w) [y] H1 fun z H3 => rNeD K (.ref q) z H3 _
    refine sort_set_lib (.inr (SqT.of (k12.tup e7))) l72 (by omega) fun H3 p3 ws k3 h0 e3 l3 => ?_
    rw [fam.told_set] at l3
    refine ⟨.list ((toldOf S).map (libD t)), .list ((toldOf S).map (libD t)), .lst (SqL.of (k3.lst eq2)) (Libs.dp (l72.tk k3.tk)), .lst (SqL.of e3) l3.dp, shp_libs t _, shp_libs t _, _, rfl, ifF ?_ ?_⟩
    · show (!PyData.eqvAll _ _) = false
      rw [eqv_libs, decide_eq_true rfl]
      rfl
    have hacc3 := k3.lst hacc2
    have pr3 : ITs H3 acc ((toldOf S).map msks) := ITs.tk pr2 k3.tk
    have k13 := k12.trans k3
    clear e3 l3 hacc hacc2 pr pr2 eq2 kq
    refine ⟨_, rfl, D1, rfl, ⟨_, SqL.of hacc3⟩, fun D3 hD3 => ?_⟩
    refine turns_list (xs := acc) (fun j H' => AccI H3 D3 IT [] H') (AccI.zero hD3) (fun j H' I => SqL.of (I.1.lst hacc3)) ?_ ?_
    · intro j y H4 hy I
      obtain ⟨m, hm, iy⟩ := Paired.at' pr3 hy
      have hmem := List.mem_of_getElem? hm
      have ft := fam.fit m (fam.there_mem.mp hmem)
      refine ⟨rfl, ?_⟩
      refine ⟨_, rfl, _, rfl, _, rfl, _, rfl, _, rfl, rfl, ((t, most, melts), m, (toldOf S).map msks), ⟨_, _, rfl, iy.kp I.1, ⟨D1, acc, rfl, I.1.lst hacc3, ITs.tk pr3 I.1.tk⟩, by rw [ft.1]; exact ft, by rw [ft.1]; exact few, h2⟩, ?_⟩
      rintro _ H5 k5 rfl
      refine ⟨_, rfl, ?_⟩
      dsimp only
      rw [fam.kept hmem]
      exact ifF rfl (I.keep stab_it k5 rfl)
    · rintro H4 ⟨k4, acc4, hacc4, pr4⟩
      refine ⟨Nat.zero_le _, fun e he => ?_⟩
      have ke : Kp H4 (upd H4 e (.lst [])) := Kp.new he
      refine ne_nil (ke.lst hacc4) (ITs.tk pr4 ke.tk) upd_same ⟨_, rfl, ifF rfl ?_⟩
      exact k _ _ ((k13.trans k4).trans ke)
end
end MX
end

section
set_option Elab.async false
set_option linter.all false
set_option maxRecDepth 100000
set_option maxHeartbeats 4000000
namespace MX
open PySem PySem.Spec PyProof.Rows L2
/-- a value that must not be shown -/
def BadV (t n most melts : Nat) (first : List Nat) (H : Hp) (v : V) : Prop := ∃ x : Val, ValV H v x ∧ ∀ os, x = .tup os → os.length ≤ 1000 ∧ showB t n most melts first os = false
theorem BadV.kp {t n most melts : Nat} {first : List Nat} {H H' : Hp} {v : V} (h : BadV t n most melts first H v) (k : Kp H H') : BadV t n most melts first H' v := by
  obtain ⟨x, h1, h2⟩ := h
  exact ⟨x, h1.kp k, h2⟩
theorem libV_of {H : Hp} {v : V} {t : Nat} {L : List (List Nat)} (h : Lib H v t L) : LibV H v (libO t L) := by
  obtain ⟨a, b, vs, rfl, e1, e2, its⟩ := h
  refine ⟨a, b, vs, rfl, e1, e2, ?_⟩
  clear e2
  induction its with
  | nil => exact .nil
  | cons h _ ih => exact .cons h ih
theorem libVs_of {H : Hp} {t : Nat} {vs : List V} {l : List (List (List Nat))} (h : Libs H t vs l) : Paired (LibV H) vs (l.map (libO t)) := by
  induction h with
  | nil => exact .nil
  | cons h _ ih => exact .cons (libV_of h) ih
theorem void_rows {H : Hp} {e : Addr} (he : H e = some (.tup [])) : ∀ n, Paired (RowV H) (List.replicate n (.ref e)) ((List.replicate n ([] : List Nat)).map some)
  | 0 => .nil
  | n + 1 => .cons ⟨e, rfl, he⟩ (void_rows he n)
theorem mask_rows {H : Hp} : ∀ m : List Nat, Paired (RowV H) (m.map nV) (List.replicate m.length none)
  | [] => .nil
  | x :: m => .cons ⟨x, rfl⟩ (mask_rows m)
theorem flat_one {α : Type} (x : α) : ∀ n, (List.replicate n [x]).flatten = List.replicate n x
  | 0 => rfl
  | n + 1 => by rw [List.replicate_succ, List.flatten_cons, flat_one x n]; rfl
section
variable {K : PySem.W.Frag} {σ : L2.St} {t n most melts : Nat} {first : List Nat} {Pre : Hp → Prop}
abbrev Bads (t n most melts : Nat) (first : List Nat) (k : Nat) (H : Hp) (vs : List V) : Prop := vs.length = k ∧ ∀ v ∈ vs, BadV t n most melts first H v
theorem gb_nil : Ga Pre σ tNil (Bads t n most melts first 0) := fun H Q _ q => q [] H (Kp.refl H) ⟨rfl, by simp⟩
theorem gb_cons {te : TE} {ta : TA} {k : Nat} (sp : ∀ H H', Kp H H' → Pre H → Pre H') (h1 : Gv Pre σ te (BadV t n most melts first)) (h2 : Ga Pre σ ta (Bads t n most melts first k)) : Ga Pre σ (tCons te ta) (Bads t n most melts first (k + 1)) := by
  intro H Q p q
  refine h1 H _ p fun v H1 k1 f1 => ?_
  refine h2 H1 _ (sp _ _ k1 p) fun vs H2 k2 f2 => ?_
  refine q (v :: vs) H2 (k1.trans k2) ⟨by rw [List.length_cons, f2.1], fun u hu => ?_⟩
  rcases List.mem_cons.mp hu with rfl | hu
  · exact f1.kp k2
  · exact f2.2 u hu
def BadL (t n most melts : Nat) (first : List Nat) (k : Nat) (H : Hp) (v : V) : Prop := ∃ a vs, v = .ref a ∧ H a = some (.lst vs) ∧ Bads t n most melts first k H vs
theorem BadL.kp {k : Nat} {H H' : Hp} {v : V} (h : BadL t n most melts first k H v) (q : Kp H H') : BadL t n most melts first k H' v := by
  obtain ⟨a, vs, e, p, l, r⟩ := h
  exact ⟨a, vs, e, q.lst p, l, fun v hv => (r v hv).kp q⟩
theorem gb_lst {ta : TA} {k : Nat} (h : Ga Pre σ ta (Bads t n most melts first k)) (hk : k ≤ 1000) : Gv Pre σ (tLst ta) (BadL t n most melts first k) := by
  intro H Q p q
  refine h H _ p fun vs H1 k1 f1 => ?_
  refine ⟨by rw [f1.1, sizeLine_eq]; omega, fun a ha => ?_⟩
  have ka : Kp H1 (upd H1 a (.lst vs)) := Kp.new ha
  exact q _ _ (k1.trans ka) ⟨a, vs, rfl, upd_same, f1.1, fun v hv => (f1.2 v hv).kp ka⟩
theorem gb_cat {te tu : TE} {k j : Nat} (sp : ∀ H H', Kp H H' → Pre H → Pre H') (h1 : Gv Pre σ te (BadL t n most melts first k)) (h2 : Gv Pre σ tu (BadL t n most melts first j)) (hk : k + j ≤ 1000) : Gv Pre σ (tOp rCat te tu) (BadL t n most melts first (k + j)) := by
  intro H Q p q
  refine h1 H _ p fun v H1 k1 f1 => ?_
  refine h2 H1 _ (sp _ _ k1 p) fun u H2 k2 f2 => ?_
  obtain ⟨a, vs, rfl, ea, la, pa⟩ := f1.kp k2
  obtain ⟨b, ws, rfl, eb, lb, pb⟩ := f2
  refine ⟨a, b, vs, ws, rfl, rfl, ea, eb, by rw [la, lb, sizeLine_eq]; omega, fun c hc => ?_⟩
  have kc : Kp H2 (upd H2 c (.lst (vs ++ ws))) := Kp.new hc
  refine q _ _ ((k1.trans k2).trans kc) ⟨c, _, rfl, upd_same, by rw [List.length_append, la, lb], fun v hv => ?_⟩
  rcases List.mem_append.mp hv with hv | hv
  · exact (pa v hv).kp kc
  · exact (pb v hv).kp kc
theorem gb_non : Gv Pre σ (tC .non) (BadV t n most melts first) := fun H Q _ q => q _ H (Kp.refl H) ⟨.non, rfl, by intro os z; cases z⟩
theorem gb_void : Gv Pre σ (tTup tNil) (BadV t n most melts first) := fun H Q _ q => ⟨Nat.zero_le _, fun a ha => q _ _ (Kp.new ha) ⟨.tup [], ⟨a, [], rfl, upd_same, .nil⟩, by
  intro os z
  cases z
  exact ⟨Nat.zero_le _, bad_void⟩⟩⟩
variable {i : Nat} {p7 : Addr} {vs7 : List V} {S : List (List Nat)}
theorem gb_list (h7 : σ[i]? = some (some (.ref p7))) (e7 : ∀ H, Pre H → H p7 = some (.tup vs7)) : Gv Pre σ (tCB (rListOf K) (tCons (tVar i) tNil)) (BadV t n most melts first) := by
  intro H Q p q
  refine ⟨_, h7, p7, _, rfl, .inr (SqT.of (e7 H p)), fun a ha => ?_⟩
  exact q _ _ (Kp.new ha) ⟨.lst, ⟨a, _, rfl, upd_same⟩, by intro os z; cases z⟩
variable (F : Fam t n most melts first S) (s64 : S.length < 64) (h7 : σ[i]? = some (some (.ref p7))) (e7 : ∀ H, Pre H → H p7 = some (.tup vs7)) (l7 : ∀ H, Pre H → Libs H t vs7 (toldOf S))
include F s64 h7 e7 l7
omit h7 e7 l7 in
theorem told_len : (toldOf S).length < 64 := by
  unfold toldOf
  rw [(sortM_perm _).length_eq, List.length_map]
  exact s64
theorem gb_none : Gv Pre σ (tOp (rCatA K) (tVar i) (tTup (tCons (tC .non) tNil))) (BadV t n most melts first) := by
  intro H Q p q
  have len := (l7 H p).length
  have t64 := told_len F s64
  refine ⟨_, h7, by show 1 ≤ sizeLine; decide, fun b hb => ?_⟩
  have kb : Kp H (upd H b (.tup [.non])) := Kp.new hb
  refine ⟨p7, b, vs7, [.non], rfl, rfl, SqT.of (kb.tup (e7 H p)), SqT.of upd_same, by rw [len, sizeLine_eq]; show _ + 1 ≤ _; omega, fun z => ?_, fun _ z => by (cases z), fun _ _ a ha => ?_⟩
  · rw [z] at len
    exact absurd (List.length_eq_zero_iff.mp len.symm) F.told_ne
  have ka : Kp (upd H b (.tup [.non])) (upd (upd H b (.tup [.non])) a (.tup (vs7 ++ [.non]))) := Kp.new ha
  refine q _ _ (kb.trans ka) ⟨.tup ((toldOf S).map (libO t) ++ [none]), ⟨a, _, rfl, upd_same, ?_⟩, ?_⟩
  · exact Paired.app (libVs_of ((l7 H p).tk (kb.trans ka).tk)) (.cons rfl .nil)
  · intro os z
    cases z
    exact ⟨by rw [List.length_append, List.length_map]; show _ + 1 ≤ _; omega, bad_none _⟩
theorem gb_rev : Gv Pre σ (tIf (tTest (tOp (rI0 fun i j => .bl (decide (j < i))) (tCB (rLenOf K) (tCons (tVar i) tNil)) (tC (.int 1)))) (tRevT K (tVar i)) (tTup tNil)) (BadV t n most melts first) := by
  intro H Q p q
  have len := (l7 H p).length
  have t64 := told_len F s64
  refine ⟨_, h7, p7, _, rfl, .inr (SqT.of (e7 H p)), _, _, rfl, rfl, _, rfl, ?_⟩
  refine ite_b (fun hb => ?_) (fun hb => gb_void H Q p q)
  have h1 : 1 < (toldOf S).length := by
    rw [← len]
    have := of_decide_eq_true hb
    omega
  refine ⟨_, h7, p7, _, rfl, SqT.of (e7 H p), (by rintro rfl; simp at len; omega), fun a ha => ?_⟩
  have ka : Kp H (upd H a (.tup vs7.reverse)) := Kp.new ha
  refine q _ _ ka ⟨.tup ((toldOf S).map (libO t)).reverse, ⟨a, _, rfl, upd_same, Paired.rev (libVs_of ((l7 H p).tk ka.tk))⟩, ?_⟩
  intro os z
  cases z
  exact ⟨by rw [List.length_reverse, List.length_map]; omega, F.bad_rev h1⟩
theorem gb_more {j k : Nat} {v6 : V} (hj : σ[j]? = some (some (nV t))) (h6 : σ[k]? = some (some v6)) (i6 : ∀ H, Pre H → IT H v6 first) (n1 : 1 ≤ n) (n9 : n ≤ 9) :
    Gv Pre σ (tOp (rCatA K) (tVar i) (tTup (tCons (tTup (tCons (tVar j) (tCons (tOp (fun x y H Q => rRep1 K x y H Q ∨ rRepT K x y H Q) (tTup (tCons (tTup tNil) tNil)) (tCB (rLenOf K) (tCons (tVar k) tNil))) tNil))) tNil))) (BadV t n most melts first) := by
  intro H Q p q
  have len := (l7 H p).length
  have t64 := told_len F s64
  have fl := (F.fit first F.fst).1
  refine ⟨_, h7, _, hj, Nat.zero_le _, fun e he => ⟨by show 1 ≤ sizeLine; decide, fun d hd => ?_⟩⟩
  have ke : Kp H (upd H e (.tup [])) := Kp.new he
  have kd : Kp (upd H e (.tup [])) (upd (upd H e (.tup [])) d (.tup [.ref e])) := Kp.new hd
  have kk := ke.trans kd
  have ee : (upd (upd H e (.tup [])) d (.tup [.ref e])) e = some (.tup []) := kd.tup upd_same
  have ed : (upd (upd H e (.tup [])) d (.tup [.ref e])) d = some (.tup [.ref e]) := upd_same
  generalize upd (upd H e (.tup [])) d (.tup [.ref e]) = H1 at *
  obtain ⟨a6, rfl, e6⟩ := (i6 H p).kp kk
  have e7' := kk.tup (e7 H p)
  have l7' := (l7 H p).tk kk.tk
  have fin : ∀ (r : Addr) (H2 : Hp), Kp H1 H2 → H2 r = some (.tup (List.replicate n (.ref e))) → (fun xs H1 => xs.length ≤ sizeLine ∧ ∀ p, H1 p = none → (fun xs H1 => xs.length ≤ sizeLine ∧ ∀ p, H1 p = none → rCatA K (.ref p7) (.ref p) (upd H1 p (.tup xs)) Q) [.ref p] (upd H1 p (.tup xs))) [nV t, .ref r] H2 := by
    intro r H2 k2 er
    refine ⟨by show 2 ≤ sizeLine; decide, fun y hy => ⟨by show 1 ≤ sizeLine; decide, fun z hz => ?_⟩⟩
    have ky : Kp H2 (upd H2 y (.tup [nV t, .ref r])) := Kp.new hy
    have kz : Kp (upd H2 y (.tup [nV t, .ref r])) (upd (upd H2 y (.tup [nV t, .ref r])) z (.tup [.ref y])) := Kp.new hz
    have k4 := (k2.trans ky).trans kz
    refine ⟨p7, z, vs7, [.ref y], rfl, rfl, SqT.of (k4.tup e7'), SqT.of upd_same, by rw [len, sizeLine_eq]; show _ + 1 ≤ _; omega, fun z => ?_, fun _ z => by (cases z), fun _ _ x hx => ?_⟩
    · rw [z] at len
      exact absurd (List.length_eq_zero_iff.mp len.symm) F.told_ne
    have kx : Kp (upd (upd H2 y (.tup [nV t, .ref r])) z (.tup [.ref y])) (upd (upd (upd H2 y (.tup [nV t, .ref r])) z (.tup [.ref y])) x (.tup (vs7 ++ [.ref y]))) := Kp.new hx
    have k5 := k4.trans kx
    refine q _ _ (kk.trans k5) ⟨.tup ((toldOf S).map (libO t) ++ [libO t (List.replicate n [])]), ⟨x, _, rfl, upd_same, ?_⟩, ?_⟩
    · refine Paired.app (libVs_of (l7'.tk k5.tk)) (.cons ?_ .nil)
      exact ⟨y, r, _, rfl, kx.tup (kz.tup upd_same), ((ky.trans kz).trans kx).tup er, void_rows (k5.tup ee) n⟩
    · intro os z
      cases z
      exact ⟨by rw [List.length_append, List.length_map]; show _ + 1 ≤ _; omega, F.bad_more⟩
  by_cases h1 : n = 1
  · refine ⟨_, h6, a6, _, rfl, .inr (SqT.of e6), .inl ⟨d, _, rfl, ?_, SqT.of ed, ?_⟩⟩
    · rw [List.length_map, fl, h1]
      rfl
    · exact fin d H1 (Kp.refl _) (by rw [ed, h1]; rfl)
  · refine ⟨_, h6, a6, _, rfl, .inr (SqT.of e6), .inr ⟨d, _, _, rfl, rfl, SqT.of ed, by (intro z; cases z), ?_, ?_, by show 1 ≤ 1000; decide, fun g hg => ?_⟩⟩
    · rw [List.length_map, fl]
      omega
    · rw [List.length_map, fl]
      omega
    · have kg : Kp H1 (upd H1 g (.tup (List.replicate ((first.map nV).length : Int).toNat [V.ref e]).flatten)) := Kp.new hg
      exact fin g _ kg (by rw [upd_same, flat_one, Int.toNat_natCast, List.length_map, fl])
omit s64 h7 e7 l7 in
theorem gb_masks {j k : Nat} {v6 : V} (hj : σ[j]? = some (some (nV t))) (h6 : σ[k]? = some (some v6)) (i6 : ∀ H, Pre H → IT H v6 first) (n1 : 1 ≤ n) :
    Gv Pre σ (tTup (tCons (tTup (tCons (tVar j) (tCons (tVar k) tNil))) tNil)) (BadV t n most melts first) := by
  intro H Q p q
  have fl := (F.fit first F.fst).1
  obtain ⟨a6, rfl, e6⟩ := i6 H p
  refine ⟨_, hj, _, h6, by show 2 ≤ sizeLine; decide, fun y hy => ⟨by show 1 ≤ sizeLine; decide, fun z hz => ?_⟩⟩
  have ky : Kp H (upd H y (.tup [nV t, .ref a6])) := Kp.new hy
  have kz : Kp (upd H y (.tup [nV t, .ref a6])) (upd (upd H y (.tup [nV t, .ref a6])) z (.tup [.ref y])) := Kp.new hz
  refine q _ _ (ky.trans kz) ⟨.tup [some (t, List.replicate n none)], ⟨z, _, rfl, upd_same, .cons ⟨y, a6, _, rfl, kz.tup upd_same, (ky.trans kz).tup e6, ?_⟩ .nil⟩, ?_⟩
  · rw [← fl]
    exact mask_rows first
  · intro os z
    cases z
    exact ⟨by show 1 ≤ 1000; decide, bad_masks n1⟩
end
section
variable {P : Program} {w : World} {K : PySem.W.Frag} {mg : Str → Option Value} {base : Heap} {f c C : Addr} {fd : FuncData}
theorem law_C2 {A : Around} {outer : List Env} {s : Shared} {H0 : Hp} {T1 T2 T3 T4 : Addr} (hr : Room 11 (A.deeper (envOfC "law" (defScope st_law) s.heap.objs.size f (.ref c)))) (B : Bi mg)
    (C_shows_flood_family : Cal P w K mg base 11 "shows_flood_family" ["library", "most", "melts", "value"] (sp_shows C T1 T2 T3 T4))
    {tD2 : TS} (hD : PSs (lawX P w K mg base f c A outer s H0) ((defBody st_law).drop 16) tD2) :
    ∃ t, PSs (lawX P w K mg base f c A outer s H0) ((defBody st_law).drop 13) t ∧ ∀ (D : Ends) (H : Hp) (v1 : Option V) (v2 v6 : V) (p7 : Addr) (vs7 : List V) (t' most melts : Nat) (l S : List (List Nat)) (o0 o8 o9 o10 o11 o12 o13 o14 o15 o16 : Option V),
      Fam t' l.length most melts (firstOf l) S → S.length < 64 → Ask t' l most melts → ¬ Lost t' most melts (firstOf l) → Lib H v2 t' l → IT H v6 (firstOf l) → H p7 = some (.tup vs7) → Libs H t' vs7 (toldOf S) → GxR.TabG H T1 → GxR.TabG H T2 → GxR.TabG H T3 → GxR.TabG H T4 →
      (∀ H' v11, Kp H H' → tD2 D [o0, v1, some v2, some (nV most), some (nV melts), some (nV t'), some v6, some (.ref p7), o8, o9, o10, v11, o12, o13, o14, o15, o16, none, none, none, none, none] H') →
      t D [o0, v1, some v2, some (nV most), some (nV melts), some (nV t'), some v6, some (.ref p7), o8, o9, o10, o11, o12, o13, o14, o15, o16, none, none, none, none, none] H := by
  refine ⟨_, (pss_cons (ps_set (i := 11) sc_law.nd rfl (Or.inl rfl) (pe_lst (pa_cons pe_non (pa_cons (pe_tup pa_nil) (pa_cons (pe_callTy (call_list_ofK K) (by rfl) B.list boot_list (pa_cons (pv 7) pa_nil)) (pa_cons (pe_op (op_catAK K) (pv 7) (pe_tup (pa_cons pe_non pa_nil))) (pa_cons (pe_ifExp (pt_cmpR op_gt (pe_callB (call_len_seqK K) (by rfl) B.len PySem.boot_len (pa_cons (pv 7) pa_nil)) pe_int (nomark _)) (pe_revT (pv 7)) (pe_tup pa_nil)) pa_nil)))))))
  (pss_cons (ps_set (i := 11) sc_law.nd rfl (Or.inl rfl) (pe_op op_cat (pv 11) (pe_lst (pa_cons (pe_op (op_catAK K) (pv 7) (pe_tup (pa_cons (pe_tup (pa_cons (pv 5) (pa_cons (pe_op ((op_rep1TK K).or (op_repTK K)) (pe_tup (pa_cons (pe_tup pa_nil) pa_nil)) (pe_callB (call_len_seqK K) (by rfl) B.len PySem.boot_len (pa_cons (pv 6) pa_nil))) pa_nil))) pa_nil))) (pa_cons (pe_tup (pa_cons (pe_tup (pa_cons (pv 5) (pa_cons (pv 6) pa_nil))) pa_nil)) pa_nil)))))
  (pss_cons (ps_if (pt_cmpR (op_neDK K (hu := hr.units)) (pe_lc (own := [("_law_value", 19)]) rfl sc_law.nd (pi_listK K (hl := (pv 11))) (blkOk_by (own := [("_law_value", 19)]) (N := N_law) (sc := defScope st_law) (by decide +kernel)) (fun _ _ _ _ _ => (pg_name (i := 19) sc_law.nd rfl (by first | exact Or.inl rfl | exact Or.inr rfl))) (fun _ _ _ _ _ => (pts_one (pt_cmpR op_notBl (pe_cal C_shows_flood_family hr (by decide) (by rfl) (pa_cons (pv 2) (pa_cons (pv 3) (pa_cons (pv 4) (pa_cons (pv 19) pa_nil))))) pe_bl (nomark _)))) (fun _ _ _ _ _ => (pv 19))) (pe_lst pa_nil) (nomark _)) (pss_one (ps_ret pe_bl)) pss_nil)
  hD))), ?_⟩
  intro D H v1 v2 v6 p7 vs7 t most melts l S o0 o8 o9 o10 o11 o12 o13 o14 o15 o16 fam s64 ask nl lib i6 e7 l7 tab1 tab2 tab3 tab4 k
  have n1 : 1 ≤ l.length := ask.g.l1
  have n6 : l.length ≤ 6 := ask.g.l6
  have sp : ∀ X Y, Kp X Y → (X p7 = some (.tup vs7) ∧ Libs X t vs7 (toldOf S) ∧ IT X v6 (firstOf l)) → (Y p7 = some (.tup vs7) ∧ Libs Y t vs7 (toldOf S) ∧ IT Y v6 (firstOf l)) := fun X Y k h => ⟨k.tup h.1, h.2.1.tk k.tk, h.2.2.kp k⟩
  refine seq_gv (Pre := fun X => X p7 = some (.tup vs7) ∧ Libs X t vs7 (toldOf S) ∧ IT X v6 (firstOf l)) (F := BadL t l.length most melts (firstOf l) 5) (gb_lst (gb_cons sp gb_non (gb_cons sp gb_void (gb_cons sp (gb_list rfl fun _ h => h.1) (gb_cons sp (gb_none fam s64 rfl (fun _ h => h.1) (fun _ h => h.2.1)) (gb_cons sp (gb_rev fam s64 rfl (fun _ h => h.1) (fun _ h => h.2.1)) gb_nil))))) (by decide)) ⟨e7, l7, i6⟩ ?_
  intro b1 H1 k1 f1
  have sp2 : ∀ X Y, Kp X Y → ((X p7 = some (.tup vs7) ∧ Libs X t vs7 (toldOf S) ∧ IT X v6 (firstOf l)) ∧ BadL t l.length most melts (firstOf l) 5 X b1) → ((Y p7 = some (.tup vs7) ∧ Libs Y t vs7 (toldOf S) ∧ IT Y v6 (firstOf l)) ∧ BadL t l.length most melts (firstOf l) 5 Y b1) := fun X Y k h => ⟨sp X Y k h.1, h.2.kp k⟩
  refine seq_gv (Pre := fun X => (X p7 = some (.tup vs7) ∧ Libs X t vs7 (toldOf S) ∧ IT X v6 (firstOf l)) ∧ BadL t l.length most melts (firstOf l) 5 X b1) (F := BadL t l.length most melts (firstOf l) 7) (gb_cat sp2 (gv_var rfl fun _ h => h.2) (gb_lst (gb_cons sp2 (gb_more fam s64 rfl (fun _ h => h.1.1) (fun _ h => h.1.2.1) rfl rfl (fun _ h => h.1.2.2) n1 (by omega)) (gb_cons sp2 (gb_masks fam rfl rfl (fun _ h => h.1.2.2) n1) gb_nil)) (by decide)) (by decide)) ⟨sp _ _ k1 ⟨e7, l7, i6⟩, f1⟩ ?_
  intro b2 H2 k2 f2
  have kk := k1.trans k2
  obtain ⟨g, gs, rfl, eg, gl, gp⟩ := f2
  refine ⟨_, rfl, g, rfl, ⟨_, SqL.of eg⟩, fun D3 hD3 => ?_⟩
  refine turns_list (xs := gs) (fun j H' => AccI H2 D3 IT [] H') (AccI.zero hD3) (fun j H' I => SqL.of (I.1.lst eg)) ?_ ?_
  · intro j y H4 hy I
    obtain ⟨val, vv, hv⟩ := gp y (List.mem_of_getElem? hy)
    have k4 := kk.trans I.1
    refine ⟨rfl, ?_⟩
    refine ⟨_, rfl, _, rfl, _, rfl, _, rfl, rfl, ((t, l, most, melts), val), ⟨v2, y, rfl, lib.kp k4, ask, vv.kp I.1, fun os z => (hv os z).1, k4.tab tab1, k4.tab tab2, k4.tab tab3, k4.tab tab4⟩, ?_⟩
    intro u H5 k5 sh
    have un : u = .bl false := by
      cases val with
      | non =>
        obtain ⟨b, rfl, e⟩ : ∃ b : Bool, u = .bl b ∧ (b = true ↔ Lost t most melts (firstOf l)) := sh
        cases b with
        | false => rfl
        | true => exact absurd (e.mp rfl) nl
      | lst => exact sh
      | tup os =>
        have sh : u = .bl (showB t l.length most melts (firstOf l) os) := sh
        rw [sh, (hv os rfl).2]
    subst un
    refine ⟨_, _, rfl, rfl, _, rfl, ifF rfl ?_⟩
    exact I.keep stab_it k5 rfl
  · rintro H4 ⟨k4, acc4, hacc4, pr4⟩
    refine ⟨Nat.zero_le _, fun e he => ?_⟩
    have ke : Kp H4 (upd H4 e (.lst [])) := Kp.new he
    refine ne_nil (ke.lst hacc4) (ITs.tk pr4 ke.tk) upd_same ⟨_, rfl, ifF rfl ?_⟩
    exact k _ _ ((kk.trans k4).trans ke)
end
end MX
end

section
set_option Elab.async false
set_option linter.all false
set_option maxRecDepth 100000
set_option maxHeartbeats 4000000
namespace MX
open PySem PySem.Spec PyProof.Rows L2
theorem t4 {t n : Nat} (h : (2 ^ t) ^ n ≤ 4096) : t = 3 → n ≤ 4 := by
  rintro rfl
  by_cases q : n ≤ 4
  · exact q
  · have : (2 ^ 3) ^ 5 ≤ (2 ^ 3) ^ n := Nat.pow_le_pow_right (by decide) (by omega)
    have e : (2 ^ 3) ^ 5 = 32768 := by decide
    omega
theorem nxt {D : Ends} {σ : L2.St} {H : Hp} (h : D.nx σ H) : tNext D σ H := h
theorem gv_and {Pre : Hp → Prop} {σ : L2.St} {ta tb : TE} {x y : Bool} (sp : ∀ H H', Kp H H' → Pre H → Pre H') (h1 : Gv Pre σ ta fun _ v => v = .bl x) (h2 : Gv Pre σ tb fun _ v => v = .bl y) : Gv Pre σ (tAndV ta tb) fun _ v => v = .bl (x && y) := by
  intro H Q p q
  refine h1 H _ p fun v H1 k1 f1 => ?_
  refine ⟨x, f1, ite_b (fun hb => ?_) (fun hb => ?_)⟩
  · refine h2 H1 _ (sp _ _ k1 p) fun u H2 k2 f2 => ?_
    subst f2
    exact q _ _ (k1.trans k2) (by rw [hb]; rfl)
  · exact q _ _ k1 (by rw [hb]; rfl)
section
variable {P : Program} {w : World} {K : PySem.W.Frag} {mg : Str → Option Value} {base : Heap} {f c C : Addr} {fd : FuncData}
theorem law_B {A : Around} {outer : List Env} {s : Shared} {H0 : Hp} {T1 T2 T3 T4 : Addr} (hr : Room 11 (A.deeper (envOfC "law" (defScope st_law) s.heap.objs.size f (.ref c)))) (B : Bi mg)
    (C_flood_family : Cal P w K mg base 11 "flood_family" ["library", "most", "melts"] (sp_flood_family C T1 T2)) (C_law_within : Cal P w K mg base 6 "_law_within" ["_law_texts", "_law_first", "_law_most", "_law_melts"] sp_law_within) (C_shows_flood_family : Cal P w K mg base 11 "shows_flood_family" ["library", "most", "melts", "value"] (sp_shows C T1 T2 T3 T4))
    (C_law_keeps : Cal P w K mg base 2 "_law_keeps" ["_law_texts", "_law_masks"] sp_law_keeps) (C_law_is_kept : Cal P w K mg base 6 "_law_is_kept" ["_law_texts", "_law_masks", "_law_there", "_law_most", "_law_melts"] sp_law_is_kept) (C_law_alike : Cal P w K mg base 6 "_law_alike" ["_law_found", "_law_due"] (sp_alike 4)) (C_is_flood_scheme : Cal P w K mg base 7 "is_flood_scheme" ["library", "most", "melts"] (sp_is_flood_scheme T1 T2))
    {tD2 : TS} (hD : PSs (lawX P w K mg base f c A outer s H0) ((defBody st_law).drop 10) tD2) :
    ∃ t, PSs (lawX P w K mg base f c A outer s H0) ((defBody st_law).drop 5) t ∧ ∀ (D : Ends) (H : Hp) (v1 : Option V) (v2 v6 : V) (t' most melts : Nat) (l : List (List Nat)) (o0 o7 o8 o9 o10 o11 o12 o13 o14 o15 o16 : Option V),
      Ask t' l most melts → Few t' l.length melts → (2 ^ t') ^ l.length ≤ 4096 → Lib H v2 t' l → IT H v6 (firstOf l) → GxR.TabG H T1 → GxR.TabG H T2 → GxR.TabG H T3 → GxR.TabG H T4 → (∀ H', D.rt (.bl true) H') →
      (∀ H' p7 vs7 S v8 v9, Kp H H' → Fam t' l.length most melts (firstOf l) S → ¬ Lost t' most melts (firstOf l) → H' p7 = some (.tup vs7) → Libs H' t' vs7 (toldOf S) → tD2 D [o0, v1, some v2, some (nV most), some (nV melts), some (nV t'), some v6, some (.ref p7), v8, v9, o10, o11, o12, o13, o14, o15, o16, none, none, none, none, none] H') →
      t D [o0, v1, some v2, some (nV most), some (nV melts), some (nV t'), some v6, o7, o8, o9, o10, o11, o12, o13, o14, o15, o16, none, none, none, none, none] H := by
  refine ⟨_, (pss_cons (ps_par (i := 7) (j := 8) (by rfl) sc_law.nd rfl rfl (by decide) rfl rfl (pa_cons (pe_cal C_flood_family hr (by decide) (by rfl) (pa_cons (pv 2) (pa_cons (pv 3) (pa_cons (pv 4) pa_nil)))) (pa_cons (pe_cmpR op_isN (pe_cal C_law_within hr (by decide) (by rfl) (pa_cons (pv 5) (pa_cons (pv 6) (pa_cons (pv 3) (pa_cons (pv 4) pa_nil))))) pe_non (nomark _)) pa_nil)) (by rfl))
  (pss_cons (ps_if (PW.pt (pw_or (pt_cmpR (op_neDK K (hu := hr.units)) (pe_cmpR op_notN (pv 7) pe_non (nomark _)) (pv 8) (nomark _)) (pw_or1 (pt_cmpR op_notBl (pe_cal C_shows_flood_family hr (by decide) (by rfl) (pa_cons (pv 2) (pa_cons (pv 3) (pa_cons (pv 4) (pa_cons (pv 7) pa_nil))))) pe_bl (nomark _))))) (pss_one (ps_ret pe_bl)) pss_nil)
  (pss_cons (ps_set (i := 9) sc_law.nd rfl (Or.inl rfl) (pe_and (pe_cal C_law_keeps hr (by decide) (by rfl) (pa_cons (pv 5) (pa_cons (pv 6) pa_nil))) (pe_one (pe_cal C_law_is_kept hr (by decide) (by rfl) (pa_cons (pv 5) (pa_cons (pv 6) (pa_cons (pe_lst (pa_cons (pv 6) pa_nil)) (pa_cons (pv 3) (pa_cons (pv 4) pa_nil)))))))))
  (pss_cons (ps_if (pt_not (pt_val (pe_cal C_law_alike hr (by decide) (by rfl) (pa_cons (pe_cal C_is_flood_scheme hr (by decide) (by rfl) (pa_cons (pv 2) (pa_cons (pv 3) (pa_cons (pv 4) pa_nil)))) (pa_cons (pv 9) pa_nil))))) (pss_one (ps_ret pe_bl)) pss_nil)
  (pss_cons (ps_if (pt_cmpR op_isN (pv 7) pe_non (nomark _)) (pss_one (ps_ret (pe_cmpR op_isBl (pe_cal C_shows_flood_family hr (by decide) (by rfl) (pa_cons (pv 2) (pa_cons (pv 3) (pa_cons (pv 4) (pa_cons (pe_tup pa_nil) pa_nil))))) pe_bl (nomark _)))) pss_nil)
  hD))))), ?_⟩
  intro D H v1 v2 v6 t most melts l o0 o7 o8 o9 o10 o11 o12 o13 o14 o15 o16 ask few cap lib i6 tab1 tab2 tab3 tab4 hk k
  have fo : POrd (firstOf l) := ord_in _
  have ff : Fit t l.length (firstOf l) := order_fit (lib_fit ask.g)
  have fe : inOrder (firstOf l) = firstOf l := ord_eq fo
  refine ⟨_, rfl, _, rfl, _, rfl, rfl, (t, l, most, melts), ⟨v2, rfl, lib, ask, tab1, tab2⟩, ?_⟩
  rintro v7 H1 k1 ⟨r, fv, hn, hs⟩
  dsimp only at fv hn hs
  refine ⟨_, rfl, _, rfl, _, rfl, _, rfl, rfl, (t, firstOf l, most, melts), ⟨v6, rfl, i6.kp k1, by rw [ff.1]; exact ff, by rw [ff.1]; exact few, ask.h2, by rw [ff.1]; exact cap⟩, ?_⟩
  intro u H2 k2 hu
  dsimp only at hu
  rw [fe, ← lost_law ask.h3 fo] at hu
  refine ⟨rfl, ?_⟩
  have k12 := k1.trans k2
  obtain ⟨bd, val, e1, e2, vv, vz, sh⟩ : ∃ (bd : Bool) (val : Val), decide (u = V.non) = bd ∧ (!decide (v7 = V.non)) = bd ∧ ValV H2 v7 val ∧ (∀ os, val = .tup os → os.length ≤ 1000) ∧ ∀ z, ShowR t l.length most melts (firstOf l) z val → z = .bl true := by
    cases r with
    | none =>
      obtain rfl : v7 = .non := fv
      have lo := hn rfl
      refine ⟨false, .non, ?_, rfl, rfl, (by intro os z; cases z), ?_⟩
      · rcases hu with ⟨_, h⟩ | ⟨⟨i, rfl⟩, _⟩
        · exact absurd lo h
        · exact decide_eq_false (by intro z; cases z)
      · rintro z ⟨b, rfl, e⟩
        rw [e.mpr lo]
    | some S =>
      obtain ⟨held, nl⟩ := hs S rfl
      have fam := held.fam ask.g.t3 ask.h3 ask.h5 ff fo
      obtain ⟨p, vs, rfl, e, libs⟩ := fv
      have l64 := told_len fam (fam.few few.n5 (t4 cap) ask.h3 ask.h5)
      refine ⟨true, .tup ((toldOf S).map (libO t)), ?_, ?_, ⟨p, vs, rfl, k2.tup e, libVs_of (libs.tk k2.tk)⟩, ?_, ?_⟩
      · rcases hu with ⟨rfl, _⟩ | ⟨_, h⟩
        · rfl
        · exact absurd h nl
      · rw [decide_eq_false (by intro z; cases z)]
        rfl
      · intro os z
        cases z
        rw [List.length_map]
        omega
      · intro z h
        have h : z = .bl (showB t l.length most melts (firstOf l) ((toldOf S).map (libO t))) := h
        rw [h, fam.shown]
  refine ⟨_, _, rfl, ?_⟩
  refine ⟨_, rfl, rfl, _, rfl, .bool (!decide (v7 = V.non)), .bool (decide (u = V.non)), .bl _, .bl _, rfl, rfl, _, rfl, ifF ?_ ?_⟩
  · show (!((!decide (v7 = V.non)) == decide (u = V.non))) = false
    rw [e1, e2]
    simp
  refine ⟨_, rfl, _, rfl, _, rfl, _, rfl, rfl, ((t, l, most, melts), val), ⟨v2, v7, rfl, lib.kp k12, ask, vv, vz, k12.tab tab1, k12.tab tab2, k12.tab tab3, k12.tab tab4⟩, ?_⟩
  intro z H3 k3 hz
  obtain rfl := sh z hz
  refine ⟨_, _, rfl, rfl, _, rfl, ifF rfl ?_⟩
  have k13 := k12.trans k3
  have same : (lawKeeps t (firstOf l) && lawKept t most melts [firstOf l] (firstOf l)) = (hasAll t (firstOf l) && heldB t most melts [firstOf l] (firstOf l)) := by
    rw [keeps_all, held_kept (fun x => Iff.rfl) fo]
  have sp : ∀ X Y, Kp X Y → IT X v6 (firstOf l) → IT Y v6 (firstOf l) := fun X Y k h => h.kp k
  have n5 := few.n5
  refine nxt ?_
  dsimp only
  refine seq_gv (Pre := fun X => IT X v6 (firstOf l)) (F := fun _ v => v = .bl (lawKeeps t (firstOf l) && lawKept t most melts [firstOf l] (firstOf l))) (gv_and sp (x := lawKeeps t (firstOf l)) (y := lawKept t most melts [firstOf l] (firstOf l)) ?_ ?_) (i6.kp k13) ?_
  · intro X R p q
    refine ⟨_, rfl, _, rfl, rfl, (t, firstOf l), ⟨v6, rfl, p, by rw [ff.1]; exact n5, few.t9⟩, ?_⟩
    rintro _ Y ky rfl
    exact q _ Y ky rfl
  · intro X R p q
    refine ⟨_, rfl, _, rfl, _, rfl, by show 1 ≤ sizeLine; decide, fun e he => ?_⟩
    have ke : Kp X (upd X e (.lst [v6])) := Kp.new he
    refine ⟨_, rfl, _, rfl, rfl, ((t, most, melts), firstOf l, [firstOf l]), ⟨_, _, rfl, p.kp ke, ⟨e, _, rfl, upd_same, .cons (p.kp ke) .nil⟩, by rw [ff.1]; exact ff, by rw [ff.1]; exact few, ask.h2⟩, ?_⟩
    rintro _ Y ky rfl
    exact q _ Y (ke.trans ky) rfl
  rintro _ H4 k4 rfl
  have k14 := k13.trans k4
  rw [same]
  refine ⟨_, rfl, _, rfl, _, rfl, rfl, (t, l, most, melts), ⟨v2, rfl, lib.kp k14, ask, k14.tab tab1, k14.tab tab2⟩, ?_⟩
  rintro _ H5 k5 rfl
  refine ⟨_, rfl, rfl, .inl ⟨_, _, rfl, fun H6 k6 => ⟨_, rfl, ifF (by simp) ?_⟩⟩⟩
  have k26 := ((k3.trans k4).trans k5).trans k6
  have k16 := k12.trans k26
  cases r with
  | none =>
    obtain rfl : v7 = .non := fv
    refine ⟨_, rfl, rfl, _, rfl, ifT rfl ?_⟩
    refine ⟨_, rfl, _, rfl, _, rfl, Nat.zero_le _, fun e he => ?_⟩
    have ke : Kp H6 (upd H6 e (.tup [])) := Kp.new he
    have k17 := k16.trans ke
    refine ⟨rfl, ((t, l, most, melts), .tup []), ⟨v2, _, rfl, lib.kp k17, ask, ⟨e, [], rfl, upd_same, .nil⟩, (by intro os z; cases z; exact Nat.zero_le _), k17.tab tab1, k17.tab tab2, k17.tab tab3, k17.tab tab4⟩, ?_⟩
    intro z H7 k7 hz
    obtain rfl : z = .bl (showB t l.length most melts (firstOf l) []) := hz
    rw [bad_void]
    exact ⟨_, _, rfl, rfl, hk _⟩
  | some S =>
    obtain ⟨held, nl⟩ := hs S rfl
    have fam := held.fam ask.g.t3 ask.h3 ask.h5 ff fo
    obtain ⟨p, vs, rfl, e, libs⟩ := fv
    refine ⟨_, rfl, rfl, _, rfl, ifF rfl ?_⟩
    exact k H6 p vs S _ _ k16 fam nl ((k2.trans k26).tup e) (libs.tk (k2.trans k26).tk)
end
end MX
end

section
set_option Elab.async false
set_option linter.all false
set_option maxRecDepth 100000
set_option maxHeartbeats 4000000
namespace MX
open PySem PySem.Spec PyProof.Rows L2
theorem sl_headV {K : PySem.W.Frag} {H : Hp} {Q : VK} {a : Addr} {xs : List V} {n : Nat} (e : H a = some (.tup xs)) (k : ∀ b H2, Kp H H2 → H2 b = some (.tup (xs.take n)) → Q (.ref b) H2) : rSlA K (.ref a) none (some (n : Int)) H Q := by
  refine ⟨a, xs, rfl, SqT.of e, fun hw => ?_, fun _ p hp => ?_⟩
  · have h2 := hw.2
    rw [HT.sIx_nat] at h2
    refine k _ _ (Kp.refl _) ?_
    rw [List.take_of_length_le (by omega)]
    exact e
  · refine k _ _ (Kp.new hp) ?_
    rw [upd_same]
    unfold cutV
    rw [HT.sIx_none, HT.sIx_nat, List.drop_zero, Nat.sub_zero]
    by_cases h : n ≤ xs.length
    · rw [Nat.min_eq_left h]
    · rw [Nat.min_eq_right (by omega), List.take_length, List.take_of_length_le (by omega)]
/-- a library that the law asks about -/
structure Cut (t : Nat) (l : List (List Nat)) : Prop where
  t1 : 1 ≤ t
  t3 : t ≤ 3
  l1 : 1 ≤ l.length
  l5 : l.length ≤ 5
  l4 : t = 3 → l.length ≤ 4
  row : ∀ x ∈ l, ∃ m, m < 2 ^ t ∧ x = tabletOf m
theorem cut_test {K : PySem.W.Frag} {σ : L2.St} {H : Hp} {R : Bool → Hp → Prop} {a b : Addr} {vs : List V} {t n : Nat} (h : σ[2]? = some (some (.ref a))) (ea : H a = some (.tup [nV t, .ref b])) (eb : H b = some (.tup vs)) (hl : vs.length = n) (r : R (decide ((t = 3 ∧ 4 < n) ∨ 5 < n)) H) :
    tOr (tAnd (tTest (tOp rEq (tOp (rIxT K) (tVar 2) (tC (.int 0))) (tC (.int 3)))) (tTest (tOp (rI0 fun i j => .bl (decide (j < i))) (tCB (rLenOf K) (tCons (tOp (rIxT K) (tVar 2) (tC (.int 1))) tNil)) (tC (.int 4))))) (tTest (tOp (rI0 fun i j => .bl (decide (j < i))) (tCB (rLenOf K) (tCons (tOp (rIxT K) (tVar 2) (tC (.int 1))) tNil)) (tC (.int 5)))) σ H R := by
  have c3 : ∀ R : Bool → Hp → Prop, R (decide (5 < n)) H → tTest (tOp (rI0 fun i j => .bl (decide (j < i))) (tCB (rLenOf K) (tCons (tOp (rIxT K) (tVar 2) (tC (.int 1))) tNil)) (tC (.int 5))) σ H R := fun R r => by
    refine ⟨_, h, a, _, 1, _, rfl, rfl, SqT.of ea, atI_nat (j := 1) rfl, b, _, rfl, .inr (SqT.of eb), _, _, rfl, rfl, _, rfl, ?_⟩
    rw [hl, decide_eq_decide.mpr (show (5 : Int) < (n : Int) ↔ 5 < n by omega)]
    exact r
  refine ⟨_, h, a, _, 0, _, rfl, rfl, SqT.of ea, atI_nat (j := 0) rfl, rfl, _, rfl, ite_b (fun hb => ?_) (fun hb => ifF rfl ?_)⟩
  · have e3 : t = 3 := by
      have := V.int.inj (of_decide_eq_true hb)
      omega
    refine ⟨_, h, a, _, 1, _, rfl, rfl, SqT.of ea, atI_nat (j := 1) rfl, b, _, rfl, .inr (SqT.of eb), _, _, rfl, rfl, _, rfl, ?_⟩
    refine ite_b (fun hb2 => ?_) (fun hb2 => c3 R ?_)
    · have := of_decide_eq_true hb2
      rw [decide_eq_true (.inl ⟨e3, by omega⟩)] at r
      exact r
    · have := of_decide_eq_false hb2
      rwa [decide_eq_decide.mpr (show ((t = 3 ∧ 4 < n) ∨ 5 < n) ↔ 5 < n by omega)] at r
  · have e3 : t ≠ 3 := by
      rintro rfl
      exact absurd rfl (of_decide_eq_false hb)
    refine c3 R ?_
    rwa [decide_eq_decide.mpr (show ((t = 3 ∧ 4 < n) ∨ 5 < n) ↔ 5 < n by omega)] at r
theorem ask_caps {t n melts : Nat} (t1 : 1 ≤ t) (t3 : t ≤ 3) (n1 : 1 ≤ n) (n5 : n ≤ 5) (n4 : t = 3 → n ≤ 4) (m1 : 1 ≤ melts) (m2 : melts ≤ 2) (mn : melts ≤ n) : (2 ^ t) ^ n * (n ^ melts * (2 ^ t) ^ melts) ≤ 10000000 ∧ (2 ^ t) ^ n ≤ 4096 ∧ (t ≤ n - melts → (2 ^ t) ^ melts < 64) := by
  have all : ∀ (t : Fin 4) (n : Fin 6) (m : Fin 3), (t.val = 3 → n.val ≤ 4) → m.val ≤ n.val → (2 ^ t.val) ^ n.val * (n.val ^ m.val * (2 ^ t.val) ^ m.val) ≤ 10000000 ∧ (2 ^ t.val) ^ n.val ≤ 4096 ∧ (t.val ≤ n.val - m.val → (2 ^ t.val) ^ m.val < 64) := by decide +kernel
  exact all ⟨t, by omega⟩ ⟨n, by omega⟩ ⟨melts, by omega⟩ n4 mn
section
variable {P : Program} {w : World} {K : PySem.W.Frag} {mg : Str → Option Value} {base : Heap} {f c C : Addr} {fd : FuncData}
theorem law_A1 {A : Around} {outer : List Env} {s : Shared} {H0 : Hp} (hr : Room 11 (A.deeper (envOfC "law" (defScope st_law) s.heap.objs.size f (.ref c)))) (B : Bi mg)
    (C_law_taken : Cal P w K mg base 1 "_law_taken" ["_law_row", "_law_many"] (sp_law_taken K)) (C_law_known : Cal P w K mg base 4 "_law_known" ["_law_row"] (sp_law_library K))
    {tD2 : TS} (hD : PSs (lawX P w K mg base f c A outer s H0) ((defBody st_law).drop 3) tD2) :
    ∃ t, PSs (lawX P w K mg base f c A outer s H0) (defBody st_law) t ∧ ∀ (D : Ends) (H : Hp) (sa : Addr) (ns : List Int), SqL K H sa (ns.map V.int) →
      (∀ H' r v2 t' l most, Kp H H' → RowOk K sa ns H' r → Lib H' v2 t' l → Cut t' l → 1 ≤ most → most ≤ 3 → tD2 D [some (.ref sa), some (.ref r), some v2, some (nV most), none, none, none, none, none, none, none, none, none, none, none, none, none, none, none, none, none, none] H') →
      t D (L2.start N_law [.ref sa]) H := by
  refine ⟨_, (pss_cons (ps_set (i := 1) sc_law.nd rfl (Or.inl rfl) (pe_lst (pa_cons (pv 0) (pa_cons pe_int (pa_cons pe_int (pa_cons pe_int pa_nil))))))
  (pss_cons (ps_asg (pe_tup (pa_cons (pe_cal C_law_known hr (by decide) (by rfl) (pa_cons (pv 1) pa_nil)) (pa_cons (pe_op op_add pe_int (pe_cal C_law_taken hr (by decide) (by rfl) (pa_cons (pv 1) (pa_cons pe_int pa_nil)))) pa_nil))) (pg_tupK K (n := 2) (hc := rfl) (h := (pgs_cons (pg_name (i := 2) sc_law.nd rfl (by first | exact Or.inl rfl | exact Or.inr rfl)) (pgs_cons (pg_name (i := 3) sc_law.nd rfl (by first | exact Or.inl rfl | exact Or.inr rfl)) pgs_nil)))))
  (pss_cons (ps_if (PW.pt (pw_or (PW.pt (pw_and (pt_cmpR op_eq (pe_ix (ix_tupK K) (pv 2) pe_int (fun _ _ => rfl)) pe_int (nomark _)) (pw_and1 (pt_cmpR op_gt (pe_callB (call_len_seqK K) (by rfl) B.len PySem.boot_len (pa_cons (pe_ix (ix_tupK K) (pv 2) pe_int (fun _ _ => rfl)) pa_nil)) pe_int (nomark _))))) (pw_or1 (pt_cmpR op_gt (pe_callB (call_len_seqK K) (by rfl) B.len PySem.boot_len (pa_cons (pe_ix (ix_tupK K) (pv 2) pe_int (fun _ _ => rfl)) pa_nil)) pe_int (nomark _))))) (pss_one (ps_set (i := 2) sc_law.nd rfl (Or.inr rfl) (pe_tup (pa_cons (pe_ix (ix_tupK K) (pv 2) pe_int (fun _ _ => rfl)) (pa_cons (pe_slice (sl_tupAK K) (pe_ix (ix_tupK K) (pv 2) pe_int (fun _ _ => rfl)) po_none (po_some pe_int)) pa_nil))))) pss_nil)
  hD))), ?_⟩
  intro D H sa ns hs k
  refine ⟨_, rfl, by show 4 ≤ sizeLine; decide, fun r hr2 => ?_⟩
  have k1 : Kp H (upd H r (.lst [.ref sa, .int 0, .int 11403, .int 0])) := Kp.new hr2
  have ro1 : RowOk K sa ns (upd H r (.lst [.ref sa, .int 0, .int 11403, .int 0])) r := ⟨0, 11403, 0, upd_same, (kp_to_off k1 hr2).sqL hs, by decide, by decide⟩
  generalize upd H r (.lst [.ref sa, .int 0, .int 11403, .int 0]) = H1 at *
  have fr : off r H1 = off r H1 := rfl
  refine ⟨_, rfl, rfl, sa, ns, r, rfl, ro1, ?_⟩
  intro H2 v2 t l k2 ro2 lib dr
  refine ⟨_, rfl, rfl, sa, ns, r, 3, rfl, ro2, by decide, by decide, ?_⟩
  intro H3 i3 k3 ro3 hi3
  refine add_one ?_
  obtain ⟨xs2, er2⟩ := ro2.lst
  have lib3 := lib_off k3 er2 lib
  have k03 : Kp H H3 := by
    have a : Kp H (off r H1) := kp_to_off k1 hr2
    have b : Kp H H2 := a.trans k2
    have c2 : Kp H (off r H2) := kp_to_off b hr2
    exact c2.trans k3
  refine ⟨by show 2 ≤ sizeLine; decide, fun p hp => ?_⟩
  have kp : Kp H3 (upd H3 p (.tup [v2, nV (i3 + 1)])) := Kp.new hp
  refine ⟨p, _, rfl, SqT.of upd_same, rfl, _, _, rfl, _, _, rfl, rfl, ?_⟩
  have lib4 := lib3.kp kp
  have ro4 := ro3.kp kp
  have k04 := k03.trans kp
  generalize upd H3 p (.tup [v2, nV (i3 + 1)]) = H4 at *
  obtain ⟨a, b, vs, rfl, ea, eb, its⟩ := lib4
  have vl := its.length
  have cut4 : (t = 3 ∧ 4 < l.length) ∨ 5 < l.length → Cut t (l.take 4) := fun h => by
    refine ⟨dr.t1, dr.t3, by rw [List.length_take]; omega, by rw [List.length_take]; omega, fun _ => by rw [List.length_take]; omega, fun x hx => dr.row x (List.mem_of_mem_take hx)⟩
  have cut0 : ¬ ((t = 3 ∧ 4 < l.length) ∨ 5 < l.length) → Cut t l := fun h => ⟨dr.t1, dr.t3, dr.l1, by omega, fun e => by omega, dr.row⟩
  refine cut_test rfl ea eb its.length (R := _) ?_
  refine ite_b (fun hb => ?_) (fun hb => ?_)
  · have hb := of_decide_eq_true hb
    refine ⟨_, rfl, a, _, 0, _, rfl, rfl, SqT.of ea, atI_nat (j := 0) rfl, ?_⟩
    refine ⟨_, rfl, a, _, 1, _, rfl, rfl, SqT.of ea, atI_nat (j := 1) rfl, ?_⟩
    refine ⟨4, rfl, sl_headV (n := 4) eb fun u H5 k5 eu => ?_⟩
    refine ⟨by show 2 ≤ sizeLine; decide, fun z hz => ?_⟩
    have kz : Kp H5 (upd H5 z (.tup [nV t, .ref u])) := Kp.new hz
    have k6 := k5.trans kz
    exact k _ _ _ _ _ (i3 + 1) (k04.trans k6) (ro4.kp k6) ⟨z, u, _, rfl, upd_same, kz.tup eu, ITs.tk (Paired.take' 4 its) k6.tk⟩ (cut4 hb) (by omega) (by omega)
  · have hb := of_decide_eq_false hb
    exact k _ _ _ _ _ (i3 + 1) k04 ro4 ⟨a, b, vs, rfl, ea, eb, its⟩ (cut0 hb) (by omega) (by omega)
theorem law_A2 {A : Around} {outer : List Env} {s : Shared} {H0 : Hp} (hr : Room 11 (A.deeper (envOfC "law" (defScope st_law) s.heap.objs.size f (.ref c)))) (B : Bi mg)
    (C_law_taken : Cal P w K mg base 1 "_law_taken" ["_law_row", "_law_many"] (sp_law_taken K)) (C_law_mask : Cal P w K mg base 1 "_law_mask" ["_law_tablet_here"] sp_mask_of) (C_law_sorted : Cal P w K mg base 4 "_law_sorted" ["_law_masks"] sp_in_order)
    {tD2 : TS} (hD : PSs (lawX P w K mg base f c A outer s H0) ((defBody st_law).drop 5) tD2) :
    ∃ t, PSs (lawX P w K mg base f c A outer s H0) ((defBody st_law).drop 3) t ∧ ∀ (D : Ends) (H : Hp) (sa r : Addr) (ns : List Int) (v2 : V) (t' most : Nat) (l : List (List Nat)) (o4 o5 o6 o7 o8 o9 o10 o11 o12 o13 o14 o15 o16 : Option V), RowOk K sa ns H r → Lib H v2 t' l → Cut t' l → 1 ≤ most → most ≤ 3 →
      (∀ H' v6 melts, Kp (off r H) H' → RowOk K sa ns H' r → Lib H' v2 t' l → Ask t' l most melts → Few t' l.length melts → (2 ^ t') ^ l.length ≤ 4096 → IT H' v6 (firstOf l) → tD2 D [some (.ref sa), some (.ref r), some v2, some (nV most), some (nV melts), some (nV t'), some v6, o7, o8, o9, o10, o11, o12, o13, o14, o15, o16, none, none, none, none, none] H') →
      t D [some (.ref sa), some (.ref r), some v2, some (nV most), o4, o5, o6, o7, o8, o9, o10, o11, o12, o13, o14, o15, o16, none, none, none, none, none] H := by
  refine ⟨_, (pss_cons (ps_asg (pe_tup (pa_cons (pe_op op_add pe_int (pe_cal C_law_taken hr (by decide) (by rfl) (pa_cons (pv 1) (pa_cons (pe_callB (call_min2 rfl) (by rfl) B.min boot_min (pa_cons pe_int (pa_cons (pe_callB (call_len_seqK K) (by rfl) B.len PySem.boot_len (pa_cons (pe_ix (ix_tupK K) (pv 2) pe_int (fun _ _ => rfl)) pa_nil)) pa_nil))) pa_nil)))) (pa_cons (pe_ix (ix_tupK K) (pv 2) pe_int (fun _ _ => rfl)) pa_nil))) (pg_tupK K (n := 2) (hc := rfl) (h := (pgs_cons (pg_name (i := 4) sc_law.nd rfl (by first | exact Or.inl rfl | exact Or.inr rfl)) (pgs_cons (pg_name (i := 5) sc_law.nd rfl (by first | exact Or.inl rfl | exact Or.inr rfl)) pgs_nil)))))
  (pss_cons (ps_set (i := 6) sc_law.nd rfl (Or.inl rfl) (pe_cal C_law_sorted hr (by decide) (by rfl) (pa_cons (pe_lc (own := [("_law_tablet_here", 18)]) rfl sc_law.nd (pi_tupK K (hl := (pe_ix (ix_tupK K) (pv 2) pe_int (fun _ _ => rfl)))) (blkOk_by (own := [("_law_tablet_here", 18)]) (N := N_law) (sc := defScope st_law) (by decide +kernel)) (fun _ _ _ _ _ => (pg_name (i := 18) sc_law.nd rfl (by first | exact Or.inl rfl | exact Or.inr rfl))) (fun _ _ _ _ _ => pts_nil) (fun _ _ _ _ _ => (pe_cal C_law_mask hr (by decide) (by rfl) (pa_cons (pv 18) pa_nil)))) pa_nil)))
  hD)), ?_⟩
  intro D H sa r ns v2 t most l o4 o5 o6 o7 o8 o9 o10 o11 o12 o13 o14 o15 o16 ro lib cut h1 h2 k
  obtain ⟨xs0, er0⟩ := ro.lst
  obtain ⟨a, b, vs, rfl, ea, eb, its⟩ := id lib
  have vl := its.length
  have l1 := cut.l1
  have l5 := cut.l5
  refine ⟨_, rfl, _, rfl, a, _, 1, _, rfl, rfl, SqT.of ea, atI_nat (j := 1) rfl, b, _, rfl, .inr (SqT.of eb), 2, (vs.length : Int), rfl, rfl, sa, ns, r, min 2 vs.length, min_n _, ro, by omega, by omega, ?_⟩
  intro H1 i1 k1 ro1 hi1
  refine add_one ?_
  have lib1 := lib_off k1 er0 lib
  obtain ⟨melts, hm⟩ : ∃ melts, melts = i1 + 1 := ⟨_, rfl⟩
  have m12 : 1 ≤ melts ∧ melts ≤ 2 ∧ melts ≤ l.length := by omega
  rw [← hm]
  clear hm hi1
  obtain ⟨a', b', ws, e', ea1, eb1, its1⟩ := id lib1
  cases e'
  refine ⟨_, rfl, a, _, 0, _, rfl, rfl, SqT.of ea1, atI_nat (j := 0) rfl, ?_⟩
  refine ⟨by show 2 ≤ sizeLine; decide, fun p hp => ?_⟩
  have kp : Kp H1 (upd H1 p (.tup [nV melts, nV t])) := Kp.new hp
  refine ⟨p, _, rfl, SqT.of upd_same, rfl, _, _, rfl, _, _, rfl, rfl, ?_⟩
  have ro2 := ro1.kp kp
  have lib2 := lib1.kp kp
  have ea2 := kp.tup ea1
  have eb2 := kp.tup eb1
  have its2 : ITs (upd H1 p (.tup [nV melts, nV t])) ws l := ITs.tk its1 kp.tk
  have k02 := k1.trans kp
  generalize upd H1 p (.tup [nV melts, nV t]) = H2 at *
  have wl := its2.length
  have p8 : ∀ m, m < 2 ^ t → m < 8 := fun m hm => Nat.lt_of_lt_of_le hm (Nat.le_trans (Nat.pow_le_pow_right (by decide) cut.t3) (by decide))
  refine ⟨_, rfl, a, _, 1, .ref b', rfl, rfl, SqT.of ea2, atI_nat (j := 1) rfl, b', rfl, ⟨_, SqT.of eb2⟩, fun E hE => ?_⟩
  refine turns_tup (xs := ws) (fun j H' => AccI H2 E (fun _ v (n : Nat) => v = nV n) ((l.take j).map maskOf) H') (AccI.zero hE) (fun j H' I => SqT.of (I.1.tup eb2)) ?_ ?_
  · intro j z H3 hz I
    obtain ⟨row, hrow, iz⟩ := Paired.at' its2 hz
    have sm : Sml row := by
      obtain ⟨x, hx, rfl⟩ := cut.row row (List.mem_of_getElem? hrow)
      exact sml_tab (p8 x hx)
    refine ⟨rfl, ?_⟩
    refine ⟨_, rfl, rfl, row, ⟨z, rfl, iz.kp I.1, sm⟩, ?_⟩
    rintro _ H4 k4 rfl
    exact I.push stab_nv hE k4 rfl (sl (by rw [List.length_map, List.length_take]; omega)) (by rw [take_more hrow, List.map_append]; rfl)
  · rintro H3 ⟨k3, acc, hacc, pr⟩
    rw [wl, List.take_length] at pr
    obtain rfl := nv_vals pr
    refine ⟨rfl, l.map maskOf, ⟨_, rfl, .inr ⟨E, rfl, hacc⟩⟩, ?_⟩
    intro v6 H4 k4 i6
    have k24 := k3.trans k4
    have ca := ask_caps cut.t1 cut.t3 l1 l5 cut.l4 m12.1 m12.2.1 m12.2.2
    refine k H4 v6 melts (k02.trans k24) (ro2.kp k24) (lib2.kp k24) ⟨⟨cut.t1, cut.t3, l1, by omega, fun x hx => ?_⟩, h1, h2, m12.1, by omega, m12.2.2, ca.1⟩ ⟨l5, m12.2.1, m12.2.2, ca.2.2, by have := cut.t3; omega⟩ ca.2.1 i6
    obtain ⟨m, hm, rfl⟩ := cut.row x hx
    exact row_tab t cut.t3 m hm
end
end MX
end

section
set_option Elab.async false
set_option linter.all false
set_option maxRecDepth 100000
set_option maxHeartbeats 4000000
namespace MX
open PySem PySem.Spec PyProof.Rows L2
theorem FunC.fn {P : Program} {w : World} {K : PySem.W.Frag} {mg : Str → Option Value} {base : Heap} {x : Str} {st : Stmt} {f c : Addr} {fd : FuncData} {N ps : List Str} {k : Nat} {sp : Sp} (F : FunC K mg x st f fd c) (S : FnScope N ps (defScope st)) (len : ∀ vs H Q E, sp vs H Q E → vs.length = ps.length)
    (hbody : ∀ (A : Around) (outer : List Env) (s : Shared) (H : Hp) (vs : List V) (Q : VK), Room k (A.deeper (envOfC x (defScope st) s.heap.objs.size f (.ref c))) → sp vs H Q E0 →
      ∃ t, PSs (cxOf CX0 P w K mg base N x (defScope st) f (.ref c) A outer s H E0).nox (defBody st) t ∧ t { nx := fun _ H' => Q .non H', rt := Q } (start N vs) H) (hE : ∀ vs H Q E, sp vs H Q E → sp vs H Q E0) : FnOk P w K mg base CX0 (k + 1) f fd ps sp := by
  obtain ⟨oc, od, kV, doc, pm, an, ct, osl, rfl, lk, hcd⟩ := F.ex
  refine fn_of lk hcd S len fun A outer s H vs Q E hr hsp => ?_
  obtain ⟨t, h, q⟩ := hbody A outer s H vs Q hr (hE _ _ _ _ hsp)
  exact ⟨t, h.nox, q⟩
theorem tab_off {H : Hp} {r T : Addr} {xs : List V} (e : H r = some (.lst xs)) (h : GxR.TabG H T) : GxR.TabG (off r H) T := by
  obtain ⟨ps, q, t⟩ := h
  refine ⟨ps, ?_, t⟩
  rw [off_ne]
  · exact q
  · rintro rfl
    rw [e] at q
    cases q
def sp_law (K : PySem.W.Frag) (T1 T2 T3 T4 : Addr) : Sp := fun vs H Q _ => vs.length = 1 ∧ ∃ (s : Addr) (ns : List Int), vs = [.ref s] ∧ SqL K H s (ns.map V.int) ∧ GxR.TabG H T1 ∧ GxR.TabG H T2 ∧ GxR.TabG H T3 ∧ GxR.TabG H T4 ∧ ∀ H', Q (.bl true) H'
section
variable {P : Program} {w : World} {K : PySem.W.Frag} {mg : Str → Option Value} {base : Heap} {f c C : Addr} {fd : FuncData}
theorem fn_law {T1 T2 T3 T4 : Addr} (F : FunC K mg "law" st_law f fd c) (B : Bi mg)
    (C_law_taken : Cal P w K mg base 1 "_law_taken" ["_law_row", "_law_many"] (sp_law_taken K)) (C_law_known : Cal P w K mg base 4 "_law_known" ["_law_row"] (sp_law_library K)) (C_law_mask : Cal P w K mg base 1 "_law_mask" ["_law_tablet_here"] sp_mask_of) (C_law_sorted : Cal P w K mg base 4 "_law_sorted" ["_law_masks"] sp_in_order)
    (C_flood_family : Cal P w K mg base 11 "flood_family" ["library", "most", "melts"] (sp_flood_family C T1 T2)) (C_law_within : Cal P w K mg base 6 "_law_within" ["_law_texts", "_law_first", "_law_most", "_law_melts"] sp_law_within) (C_shows_flood_family : Cal P w K mg base 11 "shows_flood_family" ["library", "most", "melts", "value"] (sp_shows C T1 T2 T3 T4))
    (C_law_keeps : Cal P w K mg base 2 "_law_keeps" ["_law_texts", "_law_masks"] sp_law_keeps) (C_law_is_kept : Cal P w K mg base 6 "_law_is_kept" ["_law_texts", "_law_masks", "_law_there", "_law_most", "_law_melts"] sp_law_is_kept) (C_law_alike : Cal P w K mg base 6 "_law_alike" ["_law_found", "_law_due"] (sp_alike 4)) (C_is_flood_scheme : Cal P w K mg base 7 "is_flood_scheme" ["library", "most", "melts"] (sp_is_flood_scheme T1 T2))
    (C_law_power : Cal P w K mg base 1 "_law_power" ["_law_number", "_law_many"] sp_law_power) (C_law_tablet : Cal P w K mg base 1 "_law_tablet" ["_law_mask_here"] sp_tablet_of) (C_flood_schemes : Cal P w K mg base 7 "flood_schemes" ["texts", "tablets", "most", "melts"] sp_flood_schemes) :
    FnOk P w K mg base CX0 12 f fd ["_law_script"] (sp_law K T1 T2 T3 T4) := by
  refine F.fn sc_law (fun _ _ _ _ h => h.1) (fun A outer s H vs Q hr h => ?_) (fun _ _ _ _ h => h)
  obtain ⟨_, sa, ns, rfl, hs, tab1, tab2, tab3, tab4, k⟩ := h
  obtain ⟨tD, hD, qD⟩ := law_D (P := P) (w := w) (K := K) (mg := mg) (base := base) (outer := outer) (H0 := H) hr B C_law_taken C_law_power C_law_sorted C_law_keeps C_law_is_kept C_law_tablet C_law_alike C_flood_schemes
  obtain ⟨tC2, hC2, qC2⟩ := law_C2 hr B C_shows_flood_family hD
  obtain ⟨tC1, hC1, qC1⟩ := law_C1 hr B C_law_mask C_law_is_kept hC2
  obtain ⟨tB, hB, qB⟩ := law_B hr B C_flood_family C_law_within C_shows_flood_family C_law_keeps C_law_is_kept C_law_alike C_is_flood_scheme hC1
  obtain ⟨tA2, hA2, qA2⟩ := law_A2 hr B C_law_taken C_law_mask C_law_sorted hB
  obtain ⟨tA1, hA1, qA1⟩ := law_A1 hr B C_law_taken C_law_known hA2
  refine ⟨tA1, hA1, qA1 _ H sa ns hs ?_⟩
  intro H1 r v2 t l most k1 ro1 lib1 cut h1 h2
  obtain ⟨xs1, er1⟩ := ro1.lst
  refine qA2 _ H1 sa r ns v2 t most l _ _ _ _ _ _ _ _ _ _ _ _ _ ro1 lib1 cut h1 h2 ?_
  intro H2 v6 melts k2 ro2 lib2 ask few cap i6
  have tb : ∀ {T : Addr}, GxR.TabG H T → GxR.TabG H2 T := fun h => k2.tab (tab_off er1 (k1.tab h))
  refine qB _ H2 _ v2 v6 t most melts l _ _ _ _ _ _ _ _ _ _ _ ask few cap lib2 i6 (tb tab1) (tb tab2) (tb tab3) (tb tab4) k ?_
  intro H3 p7 vs7 S v8 v9 k3 fam nl e7 l7
  have s64 := fam.few few.n5 (t4 cap) ask.h3 ask.h5
  refine qC1 _ H3 _ v2 v6 p7 vs7 t l.length most melts (firstOf l) S _ _ _ _ _ _ _ _ _ _ fam few s64 ask.h2 (i6.kp k3) e7 l7 ?_
  intro H4 v10 k4
  have k24 := k3.trans k4
  refine qC2 _ H4 _ v2 v6 p7 vs7 t most melts l S _ _ _ _ _ _ _ _ _ _ fam s64 ask nl (lib2.kp k24) (i6.kp k24) (k4.tup e7) (l7.tk k4.tk) (k24.tab (tb tab1)) (k24.tab (tb tab2)) (k24.tab (tb tab3)) (k24.tab (tb tab4)) ?_
  intro H5 v11 k5
  exact qD _ H5 sa r ns most _ _ _ _ _ _ _ _ _ _ _ _ _ _ (ro2.kp (k24.trans k5)) h1 h2 k
end
end MX
end

section
set_option Elab.async false
set_option linter.all false
set_option maxRecDepth 100000
set_option maxHeartbeats 0
/-! the head: what stands behind the top -/
namespace MX
open PySem PySem.Spec PyProof.Rows L2
abbrev RR : PySem.W.OpenRow := PySem.W.OpenLaw.row PySem.Challenge.rw_meltlibrary_k63_whole_flood_families
def dG (x : Str) (st : Stmt) : He.DefD := ⟨(x, none), x, x, defArgs st, defBody st, defScope st, [], []⟩
def dM (m q : Str) (st : Stmt) : He.DefD := ⟨("Flood", some m), m, q, defArgs st, defBody st, defScope st, [], []⟩
def fns1 : List He.DefD := [dG "is_number" st_is_number, dG "is_row" st_is_row, dG "need_library" st_need_library, dG "need_most" st_need_most, dG "mask_of" st_mask_of, dG "tablet_of" st_tablet_of, dG "masks_of" st_masks_of, dG "total" st_total, dG "span" st_span, dG "has_all" st_has_all, dG "rows_of" st_rows_of, dG "library_of" st_library_of, dG "sums_of" st_sums_of, dG "need_sizes" st_need_sizes, dG "sorted_rows" st_sorted_rows, dG "in_order" st_in_order, dG "is_sorted_library" st_is_sorted_library, dG "chosen" st_chosen, dG "filled" st_filled, dG "need_flood" st_need_flood, dG "flood_of" st_flood_of, dG "flood_family" st_flood_family, dG "is_held" st_is_held, dG "shows_flood_family" st_shows_flood_family]
def fns2 : List He.DefD := [dG "is_flood_scheme" st_is_flood_scheme, dG "flood_schemes" st_flood_schemes, dG "_law_tablet" st_law_tablet, dG "_law_sorted" st_law_sorted, dG "_law_lefts" st_law_lefts, dG "_law_spans" st_law_spans, dG "_law_keeps" st_law_keeps, dG "_law_writings" st_law_writings, dG "_law_made" st_law_made, dG "_law_taken" st_law_taken, dG "_law_pick" st_law_pick, dG "_law_mask" st_law_mask, dG "_law_library" st_law_library, dG "_law_known" st_law_known, dG "_law_within" st_law_within, dG "_law_alike" st_law_alike, dG "_law_power" st_law_power, dG "_law_is_kept" st_law_is_kept, dG "law" st_law]
def fns3 : List He.DefD := [dM "__init__" "Flood.__init__" st_init, dM "answers" "Flood.answers" st_answers, dM "find" "Flood.find" st_find, dM "reckon" "Flood.reckon" st_reckon, dM "is_beaten" "Flood.is_beaten" st_is_beaten]
def fns : List He.DefD := fns1 ++ (fns2 ++ fns3)
def fas1 : List He.Fa := [.glo "is_number", .glo "is_row", .glo "need_library", .glo "need_most", .glo "mask_of", .glo "tablet_of", .glo "masks_of", .glo "total", .glo "span", .glo "has_all", .glo "rows_of", .glo "library_of", .glo "sums_of", .glo "need_sizes", .glo "sorted_rows", .glo "in_order", .glo "is_sorted_library", .glo "chosen", .glo "filled", .glo "need_flood", .glo "flood_of", .glo "flood_family", .glo "is_held", .glo "shows_flood_family"]
def fas2 : List He.Fa := [.glo "is_flood_scheme", .glo "flood_schemes", .glo "_law_tablet", .glo "_law_sorted", .glo "_law_lefts", .glo "_law_spans", .glo "_law_keeps", .glo "_law_writings", .glo "_law_made", .glo "_law_taken", .glo "_law_pick", .glo "_law_mask", .glo "_law_library", .glo "_law_known", .glo "_law_within", .glo "_law_alike", .glo "_law_power", .glo "_law_is_kept", .glo "law"]
def fas3 : List He.Fa := [.free "all", .free "zip", .free "len", .free "range", .free "sorted", .free "tuple", .free "list", .free "set", .free "dict", .free "isinstance", .free "int", .free "bool", .free "str", .free "sum", .free "min", .int "MOST_TEXTS" 3, .int "MOST_TABLETS" 6, .int "MOST_SUM" 3, .int "MOST_MELTS" 3, .glo "Flood", .cls "Flood", .noat "Flood" "texts", .noat "Flood" "most", .noat "Flood" "melts", .noat "Flood" "ways", .noat "Flood" "within", .meth "Flood" "__init__", .meth "Flood" "answers", .meth "Flood" "find", .meth "Flood" "reckon", .meth "Flood" "is_beaten", .mkr "Flood"]
def fas : List He.Fa := fas1 ++ (fas2 ++ fas3)
def tfs : List He.Defn := [("is_row", none), ("need_library", none), ("is_sorted_library", none), ("shows_flood_family", none)]
abbrev hkX : PySem.W.Hook := He.hookX 6 fas fns [] tfs fun _ => true
def obX (s : PySem.W.SharedT) : He.AlX := He.obsX 6 fas fns [] tfs (fun _ => true) (HandSHeadRun.getT s)
theorem obX_eq (s : PySem.W.SharedT) : obX s = hkX.obs s.abs := He.obsX_eq (HandSHeadRun.getT_eq s)
def loose1 : List Str := ["LibraryError", "BadLibrary", "BadMost", "BadNumber", "MOST_TEXTS", "MOST_TABLETS", "MOST_SUM", "is_number", "is_row", "need_library", "need_most", "mask_of", "tablet_of", "masks_of", "total", "span", "has_all", "rows_of", "library_of", "sums_of", "need_sizes", "sorted_rows", "in_order", "is_sorted_library", "MOST_MELTS", "chosen", "filled", "Flood", "need_flood", "flood_of"]
def loose2 : List Str := ["flood_family", "is_held", "shows_flood_family", "is_flood_scheme", "flood_schemes", "_law_tablet", "_law_sorted", "_law_lefts", "_law_spans", "_law_keeps", "_law_writings", "_law_made", "_law_taken", "_law_pick", "_law_mask", "_law_library", "_law_known", "_law_within", "_law_alike", "_law_power", "_law_is_kept"]
def looseX : List Str := loose1 ++ loose2
theorem runX (w : World) : HandSHeadRun.RunEq RR (PySem.W.view RR.prog [57]) hkX obX 20000 looseX w := by
  intro os
  kernel_rfl
end MX
end

section
set_option Elab.async false
set_option linter.all false
set_option maxRecDepth 100000
set_option maxHeartbeats 4000000
namespace MX
open PySem PySem.Spec PyProof.Rows L2
theorem codeRef {K : PySem.W.Frag} {p : Str × Option Str} {x qual : Str} {params : Arguments} {body : List Stmt} {scope : Scope} {fd : FuncData} (F : FunD K x qual params body scope [] [] (He.fAd K p) fd) :
    ∃ (oc : Value) (od : Option Addr) (kV doc pm : Value) (an : Option Addr) (ct : Value) (osl : Array (Option Value)),
      fd = PySem.W.fnOf x qual params body scope .none kV doc pm an (.ref (He.codeOf K p)) ct ∧ K.lookup (He.fAd K p) = some ⟨oc, od, .func fd, osl⟩ ∧ PySem.W.codeIn K (.ref (He.codeOf K p)) qual = true := by
  obtain ⟨oc, od, dV, kV, doc, pm, an, cdv, ct, osl, e, lk, hcd, hd, _⟩ := F.ex
  obtain ⟨c', rfl⟩ := He.codeIn_ref hcd
  have ec : He.codeOf K p = c' := He.codeOf_eq lk (by rw [e])
  have ed : dV = .none := by
    rcases hd with ⟨_, h⟩ | ⟨h, _⟩
    · exact h
    · exact absurd rfl h
  subst ed
  rw [ec]
  exact ⟨oc, od, kV, doc, pm, an, ct, osl, e, lk, hcd⟩
section
variable {K : PySem.W.Frag} {h : Heap} {mg : Str → Option Value}
theorem funC {x : Str} {st : Stmt} (D : He.SaysD fas fns K) (X : K.In h) (G : h.Ns mainGlobals mg) (i : Nat) (j : Nat) (h1 : fns[i]? = some (dG x st)) (h2 : fas[j]? = some (.glo x)) : ∃ fd, FunC K mg x st (He.ga K x) fd (He.codeOf K (x, none)) := by
  obtain ⟨fd, F⟩ := D.def_ i (d := dG x st) h1
  have F' : FunD K x x (defArgs st) (defBody st) (defScope st) [] [] (He.fAd K (x, none)) fd := F
  exact ⟨fd, codeRef F', F'.kp, He.glo_ok X G (D.fact j h2)⟩
theorem mthC {m q : Str} {st : Stmt} (D : He.SaysD fas fns K) (i j k : Nat) (h1 : fns[i]? = some (dM m q st)) (h2 : fas[j]? = some (.meth "Flood" m)) (h3 : fas[k]? = some (.cls "Flood")) : ∃ fd, MthC K (He.ga K "Flood") m q st (He.ma K (He.ga K "Flood") m) fd (He.codeOf K ("Flood", some m)) := by
  obtain ⟨fd, F⟩ := D.def_ i (d := dM m q st) h1
  have F' : FunD K m q (defArgs st) (defBody st) (defScope st) [] [] (He.fAd K ("Flood", some m)) fd := F
  exact ⟨fd, codeRef F', He.meth_ok (D.fact j h2), He.cls_ok (D.fact k h3)⟩
theorem biX (D : He.SaysD fas fns K) (X : K.In h) (G : h.Ns mainGlobals mg) : Bi mg where
  all := He.free_ok X G (D.fact 43 (f := .free "all") rfl)
  zip := He.free_ok X G (D.fact 44 (f := .free "zip") rfl)
  len := He.free_ok X G (D.fact 45 (f := .free "len") rfl)
  range := He.free_ok X G (D.fact 46 (f := .free "range") rfl)
  sorted := He.free_ok X G (D.fact 47 (f := .free "sorted") rfl)
  tuple := He.free_ok X G (D.fact 48 (f := .free "tuple") rfl)
  list := He.free_ok X G (D.fact 49 (f := .free "list") rfl)
  set := He.free_ok X G (D.fact 50 (f := .free "set") rfl)
  dict := He.free_ok X G (D.fact 51 (f := .free "dict") rfl)
  isi := He.free_ok X G (D.fact 52 (f := .free "isinstance") rfl)
  int := He.free_ok X G (D.fact 53 (f := .free "int") rfl)
  bool := He.free_ok X G (D.fact 54 (f := .free "bool") rfl)
  str := He.free_ok X G (D.fact 55 (f := .free "str") rfl)
  sum := He.free_ok X G (D.fact 56 (f := .free "sum") rfl)
  min := He.free_ok X G (D.fact 57 (f := .free "min") rfl)
  mtexts := He.int_ok X G (D.fact 58 (f := .int "MOST_TEXTS" 3) rfl)
  mtabs := He.int_ok X G (D.fact 59 (f := .int "MOST_TABLETS" 6) rfl)
  msum := He.int_ok X G (D.fact 60 (f := .int "MOST_SUM" 3) rfl)
  mmelts := He.int_ok X G (D.fact 61 (f := .int "MOST_MELTS" 3) rfl)
theorem flC (D : He.SaysD fas fns K) : FlC K (He.ga K "Flood") where
  cl := He.cls_ok (D.fact 63 (f := .cls "Flood") rfl)
  texts := He.noat_ok (D.fact 64 (f := .noat "Flood" "texts") rfl)
  most := He.noat_ok (D.fact 65 (f := .noat "Flood" "most") rfl)
  melts := He.noat_ok (D.fact 66 (f := .noat "Flood" "melts") rfl)
  ways := He.noat_ok (D.fact 67 (f := .noat "Flood" "ways") rfl)
  within := He.noat_ok (D.fact 68 (f := .noat "Flood" "within") rfl)
end
abbrev tT (K : PySem.W.Frag) (x : Str) : Addr := (He.cT K (x, none)).2
section
variable {P : Program} {w : World} {K : PySem.W.Frag} {h : Heap} {mg : Str → Option Value}
theorem all_law (D : He.SaysD fas fns K) (X : K.In h) (G : h.Ns mainGlobals mg) : ∃ fd : FuncData, (∀ (s : Shared) (v : Value), BindsTo s fd ⟨[v], []⟩ [("_law_script", v)]) ∧ ∀ base : Heap, GxR.TabB base mg (He.codeOf K ("is_row", none)) (tT K "is_row") → GxR.TabB base mg (He.codeOf K ("need_library", none)) (tT K "need_library") → GxR.TabB base mg (He.codeOf K ("is_sorted_library", none)) (tT K "is_sorted_library") → GxR.TabB base mg (He.codeOf K ("shows_flood_family", none)) (tT K "shows_flood_family") →
    FnOk P w K mg base CX0 12 (He.ga K "law") fd ["_law_script"] (sp_law K (tT K "is_row") (tT K "need_library") (tT K "is_sorted_library") (tT K "shows_flood_family")) := by
  have B := biX D X G
  have FC := flC D
  obtain ⟨_, F_is_number⟩ := funC (x := "is_number") (st := st_is_number) D X G 0 0 rfl rfl
  obtain ⟨_, F_is_row⟩ := funC (x := "is_row") (st := st_is_row) D X G 1 1 rfl rfl
  obtain ⟨_, F_need_library⟩ := funC (x := "need_library") (st := st_need_library) D X G 2 2 rfl rfl
  obtain ⟨_, F_need_most⟩ := funC (x := "need_most") (st := st_need_most) D X G 3 3 rfl rfl
  obtain ⟨_, F_mask_of⟩ := funC (x := "mask_of") (st := st_mask_of) D X G 4 4 rfl rfl
  obtain ⟨_, F_tablet_of⟩ := funC (x := "tablet_of") (st := st_tablet_of) D X G 5 5 rfl rfl
  obtain ⟨_, F_masks_of⟩ := funC (x := "masks_of") (st := st_masks_of) D X G 6 6 rfl rfl
  obtain ⟨_, F_total⟩ := funC (x := "total") (st := st_total) D X G 7 7 rfl rfl
  obtain ⟨_, F_span⟩ := funC (x := "span") (st := st_span) D X G 8 8 rfl rfl
  obtain ⟨_, F_has_all⟩ := funC (x := "has_all") (st := st_has_all) D X G 9 9 rfl rfl
  obtain ⟨_, F_rows_of⟩ := funC (x := "rows_of") (st := st_rows_of) D X G 10 10 rfl rfl
  obtain ⟨_, F_library_of⟩ := funC (x := "library_of") (st := st_library_of) D X G 11 11 rfl rfl
  obtain ⟨_, F_sums_of⟩ := funC (x := "sums_of") (st := st_sums_of) D X G 12 12 rfl rfl
  obtain ⟨_, F_need_sizes⟩ := funC (x := "need_sizes") (st := st_need_sizes) D X G 13 13 rfl rfl
  obtain ⟨_, F_sorted_rows⟩ := funC (x := "sorted_rows") (st := st_sorted_rows) D X G 14 14 rfl rfl
  obtain ⟨_, F_in_order⟩ := funC (x := "in_order") (st := st_in_order) D X G 15 15 rfl rfl
  obtain ⟨_, F_is_sorted_library⟩ := funC (x := "is_sorted_library") (st := st_is_sorted_library) D X G 16 16 rfl rfl
  obtain ⟨_, F_chosen⟩ := funC (x := "chosen") (st := st_chosen) D X G 17 17 rfl rfl
  obtain ⟨_, F_filled⟩ := funC (x := "filled") (st := st_filled) D X G 18 18 rfl rfl
  obtain ⟨_, F_need_flood⟩ := funC (x := "need_flood") (st := st_need_flood) D X G 19 19 rfl rfl
  obtain ⟨_, F_flood_of⟩ := funC (x := "flood_of") (st := st_flood_of) D X G 20 20 rfl rfl
  obtain ⟨_, F_flood_family⟩ := funC (x := "flood_family") (st := st_flood_family) D X G 21 21 rfl rfl
  obtain ⟨_, F_is_held⟩ := funC (x := "is_held") (st := st_is_held) D X G 22 22 rfl rfl
  obtain ⟨_, F_shows_flood_family⟩ := funC (x := "shows_flood_family") (st := st_shows_flood_family) D X G 23 23 rfl rfl
  obtain ⟨_, F_is_flood_scheme⟩ := funC (x := "is_flood_scheme") (st := st_is_flood_scheme) D X G 24 24 rfl rfl
  obtain ⟨_, F_flood_schemes⟩ := funC (x := "flood_schemes") (st := st_flood_schemes) D X G 25 25 rfl rfl
  obtain ⟨_, F_law_tablet⟩ := funC (x := "_law_tablet") (st := st_law_tablet) D X G 26 26 rfl rfl
  obtain ⟨_, F_law_sorted⟩ := funC (x := "_law_sorted") (st := st_law_sorted) D X G 27 27 rfl rfl
  obtain ⟨_, F_law_lefts⟩ := funC (x := "_law_lefts") (st := st_law_lefts) D X G 28 28 rfl rfl
  obtain ⟨_, F_law_spans⟩ := funC (x := "_law_spans") (st := st_law_spans) D X G 29 29 rfl rfl
  obtain ⟨_, F_law_keeps⟩ := funC (x := "_law_keeps") (st := st_law_keeps) D X G 30 30 rfl rfl
  obtain ⟨_, F_law_writings⟩ := funC (x := "_law_writings") (st := st_law_writings) D X G 31 31 rfl rfl
  obtain ⟨_, F_law_made⟩ := funC (x := "_law_made") (st := st_law_made) D X G 32 32 rfl rfl
  obtain ⟨_, F_law_taken⟩ := funC (x := "_law_taken") (st := st_law_taken) D X G 33 33 rfl rfl
  obtain ⟨_, F_law_pick⟩ := funC (x := "_law_pick") (st := st_law_pick) D X G 34 34 rfl rfl
  obtain ⟨_, F_law_mask⟩ := funC (x := "_law_mask") (st := st_law_mask) D X G 35 35 rfl rfl
  obtain ⟨_, F_law_library⟩ := funC (x := "_law_library") (st := st_law_library) D X G 36 36 rfl rfl
  obtain ⟨_, F_law_known⟩ := funC (x := "_law_known") (st := st_law_known) D X G 37 37 rfl rfl
  obtain ⟨_, F_law_within⟩ := funC (x := "_law_within") (st := st_law_within) D X G 38 38 rfl rfl
  obtain ⟨_, F_law_alike⟩ := funC (x := "_law_alike") (st := st_law_alike) D X G 39 39 rfl rfl
  obtain ⟨_, F_law_power⟩ := funC (x := "_law_power") (st := st_law_power) D X G 40 40 rfl rfl
  obtain ⟨_, F_law_is_kept⟩ := funC (x := "_law_is_kept") (st := st_law_is_kept) D X G 41 41 rfl rfl
  obtain ⟨_, F_init⟩ := mthC (m := "__init__") (q := "Flood.__init__") (st := st_init) D 43 69 63 rfl rfl rfl
  obtain ⟨_, F_answers⟩ := mthC (m := "answers") (q := "Flood.answers") (st := st_answers) D 44 70 63 rfl rfl rfl
  obtain ⟨_, F_find⟩ := mthC (m := "find") (q := "Flood.find") (st := st_find) D 45 71 63 rfl rfl rfl
  obtain ⟨_, F_reckon⟩ := mthC (m := "reckon") (q := "Flood.reckon") (st := st_reckon) D 46 72 63 rfl rfl rfl
  obtain ⟨_, F_is_beaten⟩ := mthC (m := "is_beaten") (q := "Flood.is_beaten") (st := st_is_beaten) D 47 73 63 rfl rfl rfl
  obtain ⟨fd, FD⟩ := D.def_ 42 (d := dG "law" st_law) rfl
  have FD' : FunD K "law" "law" (defArgs st_law) (defBody st_law) (defScope st_law) [] [] (He.fAd K ("law", none)) fd := FD
  have F_law : FunC K mg "law" st_law (He.ga K "law") fd (He.codeOf K ("law", none)) := ⟨codeRef FD', FD'.kp, He.glo_ok X G (D.fact 42 (f := .glo "law") rfl)⟩
  have b := FunD.bindsA (ps := ["_law_script"]) FD' fun _ _ _ _ _ _ us hl => match us, hl with | [_], _ => rfl
  refine ⟨fd, fun s v => b s [v] rfl, fun base TB_is_row TB_need_library TB_is_sorted_library TB_shows => ?_⟩
  have C_law_taken := cal_law_taken (P := P) (w := w) (base := base) (F := F_law_taken) (B := B)
  have C_law_pick := cal_law_pick (P := P) (w := w) (base := base) (F := F_law_pick) (B := B) (C_law_taken := C_law_taken)
  have C_law_mask := cal_law_mask (P := P) (w := w) (base := base) (F := F_law_mask) (B := B)
  have C_law_tablet := cal_law_tablet (P := P) (w := w) (base := base) (F := F_law_tablet) (B := B)
  have C_law_library := cal_law_library (P := P) (w := w) (base := base) (F := F_law_library) (B := B) (C_law_taken := C_law_taken) (C_law_pick := C_law_pick) (C_law_mask := C_law_mask) (C_law_tablet := C_law_tablet)
  have C_law_known := cal_law_known (P := P) (w := w) (base := base) (F := F_law_known) (B := B) (C_law_pick := C_law_pick) (C_law_library := C_law_library)
  have C_law_sorted := cal_law_sorted (P := P) (w := w) (base := base) (F := F_law_sorted) (B := B) (C_law_tablet := C_law_tablet)
  have C_is_number := cal_is_number (P := P) (w := w) (base := base) (F := F_is_number) (B := B)
  have C_need_most := cal_need_most (P := P) (w := w) (base := base) (F := F_need_most) (B := B) (C_is_number := C_is_number)
  have C_is_row := cal_is_row (P := P) (w := w) (base := base) (F := F_is_row) (TB := TB_is_row) (B := B) (C_is_number := C_is_number)
  have C_need_library := cal_need_library (P := P) (w := w) (base := base) (F := F_need_library) (TB := TB_need_library) (B := B) (C_is_number := C_is_number) (C_is_row := C_is_row)
  have C_need_flood := cal_need_flood (P := P) (w := w) (base := base) (F := F_need_flood) (B := B) (C_is_number := C_is_number) (C_need_most := C_need_most) (C_need_library := C_need_library)
  have C_mask_of := cal_mask_of (P := P) (w := w) (base := base) (F := F_mask_of) (B := B)
  have C_masks_of := cal_masks_of (P := P) (w := w) (base := base) (F := F_masks_of) (B := B) (C_mask_of := C_mask_of)
  have C_tablet_of := cal_tablet_of (P := P) (w := w) (base := base) (F := F_tablet_of) (B := B)
  have C_in_order := cal_in_order (P := P) (w := w) (base := base) (F := F_in_order) (B := B) (C_tablet_of := C_tablet_of)
  have C_chosen := cal_chosen (P := P) (w := w) (base := base) (F := F_chosen) (B := B)
  have C_span := cal_span (P := P) (w := w) (base := base) (F := F_span) (B := B)
  have C_has_all := cal_has_all (P := P) (w := w) (base := base) (F := F_has_all) (B := B) (C_span := C_span)
  have C_total := cal_total (P := P) (w := w) (base := base) (F := F_total) (B := B)
  have C_rows_of := cal_rows_of (P := P) (w := w) (base := base) (F := F_rows_of) (B := B)
  have C_sums_of := cal_sums_of (P := P) (w := w) (base := base) (F := F_sums_of) (B := B) (C_total := C_total) (C_rows_of := C_rows_of)
  have C_filled := cal_filled (P := P) (w := w) (base := base) (F := F_filled) (B := B) (C_sums_of := C_sums_of) (C_in_order := C_in_order)
  have M_answers := cal_answers (P := P) (w := w) (base := base) (FC := FC) (F := F_answers) (B := B) (C_chosen := C_chosen) (C_has_all := C_has_all) (C_filled := C_filled)
  have M_find := cal_find (P := P) (w := w) (base := base) (FC := FC) (F := F_find) (B := B) (M_answers := M_answers)
  have M_is_beaten := cal_is_beaten (P := P) (w := w) (base := base) (FC := FC) (F := F_is_beaten) (B := B)
  have M_reckon := cal_reckon (P := P) (w := w) (base := base) (FC := FC) (F := F_reckon) (B := B) (C_has_all := C_has_all) (M_is_beaten := M_is_beaten)
  have C_Flood : KCal P w K mg base (He.ga K "Flood") 8 "Flood" ["self", "texts", "masks", "most", "melts"] (sp_init (He.ga K "Flood")) := by
    obtain ⟨a, b⟩ := fn_init (P := P) (w := w) (base := base) (FC := FC) (F := F_init) (B := B) (C_in_order := C_in_order) (M_find := M_find) (M_reckon := M_reckon)
    exact ⟨⟨_, _, a, He.mkr_ok (D.fact 74 (f := .mkr "Flood") rfl), b⟩, He.glo_ok X G (D.fact 62 (f := .glo "Flood") rfl)⟩
  have C_flood_of := cal_flood_of (P := P) (w := w) (base := base) (F := F_flood_of) (B := B) (C_masks_of := C_masks_of) (C_Flood := C_Flood)
  have C_library_of := cal_library_of (P := P) (w := w) (base := base) (F := F_library_of) (B := B) (C_tablet_of := C_tablet_of)
  have C_flood_family := cal_flood_family (P := P) (w := w) (base := base) (FC := FC) (F := F_flood_family) (B := B) (C_need_flood := C_need_flood) (C_flood_of := C_flood_of) (C_masks_of := C_masks_of) (C_in_order := C_in_order) (C_library_of := C_library_of)
  have C_law_lefts := cal_law_lefts (P := P) (w := w) (base := base) (F := F_law_lefts) (B := B) (C_law_sorted := C_law_sorted)
  have C_law_spans := cal_law_spans (P := P) (w := w) (base := base) (F := F_law_spans) (B := B)
  have C_law_keeps := cal_law_keeps (P := P) (w := w) (base := base) (F := F_law_keeps) (B := B) (C_law_spans := C_law_spans)
  have C_law_writings := cal_law_writings (P := P) (w := w) (base := base) (F := F_law_writings) (B := B)
  have C_law_made := cal_law_made (P := P) (w := w) (base := base) (F := F_law_made) (B := B) (C_law_writings := C_law_writings) (C_law_sorted := C_law_sorted)
  have C_law_within := cal_law_within (P := P) (w := w) (base := base) (F := F_law_within) (B := B) (C_law_sorted := C_law_sorted) (C_law_lefts := C_law_lefts) (C_law_keeps := C_law_keeps) (C_law_made := C_law_made)
  have C_is_sorted_library := cal_is_sorted_library (P := P) (w := w) (base := base) (F := F_is_sorted_library) (TB := TB_is_sorted_library) (B := B) (C_is_number := C_is_number) (C_is_row := C_is_row)
  have C_is_held := cal_is_held (P := P) (w := w) (base := base) (F := F_is_held) (B := B) (C_chosen := C_chosen) (C_has_all := C_has_all) (C_filled := C_filled)
  have C_shows_flood_family := cal_shows (P := P) (w := w) (base := base) (FC := FC) (F := F_shows_flood_family) (TB := TB_shows) (B := B) (C_need_flood := C_need_flood) (C_flood_of := C_flood_of) (C_masks_of := C_masks_of) (C_in_order := C_in_order) (C_is_sorted_library := C_is_sorted_library) (C_is_held := C_is_held)
  have C_law_is_kept := cal_law_is_kept (P := P) (w := w) (base := base) (F := F_law_is_kept) (B := B) (C_law_lefts := C_law_lefts) (C_law_keeps := C_law_keeps) (C_law_made := C_law_made)
  have C_law_alike := cal_law_alike (P := P) (w := w) (base := base) (F := F_law_alike) (B := B)
  have C_is_flood_scheme := cal_is_flood_scheme (P := P) (w := w) (base := base) (F := F_is_flood_scheme) (B := B) (C_need_flood := C_need_flood) (C_masks_of := C_masks_of) (C_in_order := C_in_order) (C_has_all := C_has_all) (C_is_held := C_is_held)
  have C_law_power := cal_law_power (P := P) (w := w) (base := base) (F := F_law_power) (B := B)
  have C_need_sizes := cal_need_sizes (P := P) (w := w) (base := base) (F := F_need_sizes) (B := B) (C_is_number := C_is_number) (C_need_most := C_need_most)
  have C_sorted_rows := cal_sorted_rows (P := P) (w := w) (base := base) (F := F_sorted_rows) (B := B) (C_tablet_of := C_tablet_of)
  have C_flood_schemes := cal_flood_schemes (P := P) (w := w) (base := base) (F := F_flood_schemes) (B := B) (C_is_number := C_is_number) (C_need_sizes := C_need_sizes) (C_sorted_rows := C_sorted_rows) (C_has_all := C_has_all) (C_is_held := C_is_held) (C_library_of := C_library_of)
  exact fn_law (P := P) (w := w) (base := base) (F := F_law) (B := B) (C_law_taken := C_law_taken) (C_law_known := C_law_known) (C_law_mask := C_law_mask) (C_law_sorted := C_law_sorted) (C_flood_family := C_flood_family) (C_law_within := C_law_within) (C_shows_flood_family := C_shows_flood_family) (C_law_keeps := C_law_keeps) (C_law_is_kept := C_law_is_kept) (C_law_alike := C_law_alike) (C_is_flood_scheme := C_is_flood_scheme) (C_law_power := C_law_power) (C_law_tablet := C_law_tablet) (C_flood_schemes := C_flood_schemes)
end
theorem law_at {w : World} {K : PySem.W.Frag} {h : Heap} {mg : Str → Option Value} {f : Addr} (X : K.In h) (G : h.Ns mainGlobals mg) (hfa : mg ("law" : Str) = some (.ref f)) (c : He.SaysX fas fns [] tfs (fun _ => true) w h K) :
    LamX.LawAtS PySem.Challenge.rw_meltlibrary_k63_whole_flood_families w K CX0 12 63 "_law_script" mg f h := by
  have D : He.SaysD fas fns K := c.t.d
  obtain ⟨fd, hb, hF⟩ := all_law (P := PySem.Challenge.rw_meltlibrary_k63_whole_flood_families.prog) (w := w) D X G
  have e := hfa.symm.trans (He.glo_ok X G (D.fact 42 (f := .glo "law") rfl))
  cases e
  have mem : ∀ p ∈ tfs.map (He.cT K), ∃ q ∈ tfs, p = He.cT K q := fun p hp => by
    obtain ⟨q, hq, e⟩ := List.mem_map.mp hp
    exact ⟨q, hq, e.symm⟩
  refine ⟨fd, tfs.map (He.cT K), sp_law K (tT K "is_row") (tT K "need_library") (tT K "is_sorted_library") (tT K "shows_flood_family"), fun p hp => ?_, fun p hp => ?_, fun p hp => ?_, hb, ?_, ?_⟩
  · obtain ⟨q, hq, rfl⟩ := mem p hp
    exact c.empty q hq
  · obtain ⟨q, hq, rfl⟩ := mem p hp
    exact c.out q hq
  · obtain ⟨q, hq, rfl⟩ := mem p hp
    exact PySem.W.codeHd_of_K X (c.hd q hq)
  · intro H a ns _ _ tb hs
    have t : ∀ x : Str, (x, none) ∈ tfs → GxR.TabG H (tT K x) := fun x hx => ⟨#[], tb _ (List.mem_map.mpr ⟨_, hx, rfl⟩), True.intro⟩
    exact ⟨rfl, a, ns, rfl, hs, t _ (by decide), t _ (by decide), t _ (by decide), t _ (by decide), fun _ => rfl⟩
  · intro base Kb Gb tb
    have t : ∀ x : Str, (x, none) ∈ tfs → GxR.TabB base mg (He.codeOf K (x, none)) (tT K x) := fun x hx => by
      have z := tb _ (List.mem_map.mpr ⟨(x, none), hx, rfl⟩)
      exact ⟨z.code, z.bm, z.gP⟩
    exact hF base (t _ (by decide)) (t _ (by decide)) (t _ (by decide)) (t _ (by decide))
end MX
end

section
set_option Elab.async false
set_option linter.all false
set_option maxRecDepth 100000
set_option maxHeartbeats 0
open PySem PySem.W PySem.Calls PyProof.Rows
theorem PySem.Challenge.cw_meltlibrary_k63_whole_flood_families_holds : PySem.Challenge.rw_meltlibrary_k63_whole_flood_families.Holds := by
  w_on; o_law
  refine HandSHeadRun.head_any (r := OpenLaw.row PySem.Challenge.rw_meltlibrary_k63_whole_flood_families) (q := view (OpenLaw.row PySem.Challenge.rw_meltlibrary_k63_whole_flood_families).prog [57]) (H := MX.hkX) (ob := MX.obX) (M := 20000) (loose := MX.looseX) (d := HandSHeadRun.topDef (OpenLaw.row PySem.Challenge.rw_meltlibrary_k63_whole_flood_families).prog 57) (kwd := []) MX.obX_eq
    (by kernel_rfl) (fun s => by kernel_rfl) MX.runX (by kernel_rfl) (by kernel_rfl) (by kernel_rfl) (by rfl) (by first | assumption | decide +kernel) (by decide +kernel) ⟨rfl, rfl, rfl, rfl, rfl, by decide +kernel⟩ ?hw ?hc
  case hw => w_witness2
  case hc =>
    refine LamX.walk_ofTsE (l := PySem.Challenge.rw_meltlibrary_k63_whole_flood_families) (n := 63) (k := 12) (x := "_law_script") (CX := fun _ => L2.CX0) rfl (by decide) (by kernel_rfl) ⟨rfl, by decide, by decide⟩ ?F (fun _ _ _ _ _ z => z)
    intro w mg fa h Y G hmg0
    obtain ⟨K, KX, c⟩ := Y
    have hmg : mg ("law" : PySem.Str) = some (.ref fa) := by
      have e : (HandSHeadRun.topDef (OpenLaw.row PySem.Challenge.rw_meltlibrary_k63_whole_flood_families).prog 57).name = ("law" : PySem.Str) := by kernel_rfl
      rw [← e]
      exact hmg0
    exact ⟨K, KX, MX.law_at KX G hmg c⟩
end
