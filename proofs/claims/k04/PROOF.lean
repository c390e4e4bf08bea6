import PyProof.Rows.All
import Wide.All
import OpenK.AllK
import Wide.FinOn
import PyProof.ReprRoads
import HandS.ForMost
import HandS.ForExc
import HandS.IsInst
import HandS.Codes
import HandS.Star
import HandS.Conv
import HandS.Wide
import HandS.WideBits
import HandS.FStr
import HandS.MakeKwOnly
import HandS.Defaults
import HandS.Flow
import HandS.Style
import KE.GoesEnum
import PyProof.ReprLen
import PySem.Challenge.RW_shownshort_k04_whole_plans_and_widths
set_option Elab.async false
set_option linter.all false
set_option maxRecDepth 100000
set_option maxHeartbeats 4000000
/-! U1: data over the heap, heaps that grow, promises of defs that may ask what shows are under way. -/
namespace U
open PySem PySem.Spec PyProof.Rows L2

/-! ### data -/
inductive D where
  | non | bl (b : Bool) | int (i : Int) | str (x : Str) | lst (xs : List D) | tup (xs : List D) | ins (C : Addr) (ns : List Str) (xs : List D)

mutual
/-- v is the datum d in H; no object of it stands in S -/
inductive Dt (S : Addr → Prop) (H : Hp) : V → D → Prop
  | non : Dt S H .non .non
  | bl (b : Bool) : Dt S H (.bl b) (.bl b)
  | int (i : Int) : Dt S H (.int i) (.int i)
  | str (x : Str) : Dt S H (.str x) (.str x)
  | lst {a : Addr} {xs : List V} {ds : List D} : ¬ S a → H a = some (.lst xs) → DtA S H xs ds → Dt S H (.ref a) (.lst ds)
  | tup {a : Addr} {xs : List V} {ds : List D} : ¬ S a → H a = some (.tup xs) → DtA S H xs ds → Dt S H (.ref a) (.tup ds)
  | ins {a C dx : Addr} {fs : List (Str × V)} {ns : List Str} {ds : List D} : ¬ S a → H a = some (.ins C dx fs) → fs.map (·.1) = ns → DtA S H (fs.map (·.2)) ds → Dt S H (.ref a) (.ins C ns ds)
inductive DtA (S : Addr → Prop) (H : Hp) : List V → List D → Prop
  | nil : DtA S H [] []
  | cons {v : V} {vs : List V} {d : D} {ds : List D} : Dt S H v d → DtA S H vs ds → DtA S H (v :: vs) (d :: ds)
end
/-- nothing -/
abbrev N0 : Addr → Prop := fun _ => False
/-- H' holds all that H holds, but what stands in S -/
def Ext (S : Addr → Prop) (H H' : Hp) : Prop := ∀ b o, ¬ S b → H b = some o → H' b = some o

section
variable {S S' : Addr → Prop} {H H1 H2 H' : Hp}
theorem Ext.refl (H : Hp) : Ext S H H := fun _ _ _ h => h
theorem Ext.trans (a : Ext S H H1) (b : Ext S H1 H2) : Ext S H H2 := fun c o n h => b c o n (a c o n h)
theorem Ext.of (e : Same H H') : Ext S H H' := fun b o _ h => e b o h
theorem Same.new {p : Addr} {o : HO} (h : H p = none) : Same H (upd H p o) := fun b u e => by
  rw [upd_ne (ne_of_none e h)]
  exact e
theorem Same.snew {p : Addr} {o : HO} (e : Same H H1) (h : H1 p = none) : Same H (upd H1 p o) := e.trans (Same.new h)
theorem Ext.new {p : Addr} {o : HO} (e : Ext S H H1) (h : H1 p = none) : Ext S H (upd H1 p o) := e.trans (Ext.of (Same.new h))
theorem Ext.mut {p : Addr} {o : HO} (e : Ext S H H1) (h : S p) : Ext S H (upd H1 p o) := fun b u n hb => by
  rw [upd_ne (fun z => n (by rw [z]; exact h))]
  exact e b u n hb
theorem Ext.less (e : Ext S H H1) (h : ∀ a, S a → S' a) : Ext S' H H1 := fun b o n hb => e b o (fun z => n (h b z)) hb
theorem Same.ext0 (e : Ext N0 H H1) : Same H H1 := fun b o h => e b o (fun z => z) h
/-- all but one that was not there -/
theorem Ext.same {l : Addr} (e : Ext (fun a => a = l) H H1) (hl : H l = none) : Same H H1 := fun b o h => e b o (fun z => by rw [z, hl] at h; cases h) h

mutual
theorem Dt.mono (e : Ext S H H') : ∀ (d : D) {v : V}, Dt S H v d → Dt S H' v d
  | .non, _, h => by cases h; exact .non
  | .bl b, _, h => by cases h; exact .bl b
  | .int i, _, h => by cases h; exact .int i
  | .str x, _, h => by cases h; exact .str x
  | .lst ds, _, h => by
    cases h with
    | lst n ha hs => exact .lst n (e _ _ n ha) (DtA.mono e ds hs)
  | .tup ds, _, h => by
    cases h with
    | tup n ha hs => exact .tup n (e _ _ n ha) (DtA.mono e ds hs)
  | .ins C ns ds, _, h => by
    cases h with
    | ins n ha hn hs => exact .ins n (e _ _ n ha) hn (DtA.mono e ds hs)
theorem DtA.mono (e : Ext S H H') : ∀ (ds : List D) {vs : List V}, DtA S H vs ds → DtA S H' vs ds
  | [], _, h => by cases h; exact .nil
  | d :: ds, _, h => by
    cases h with
    | cons h1 h2 => exact .cons (Dt.mono e d h1) (DtA.mono e ds h2)
end
mutual
/-- another set of what may change -/
theorem Dt.set (f : ∀ a, ¬ S a → H a ≠ none → ¬ S' a) : ∀ (d : D) {v : V}, Dt S H v d → Dt S' H v d
  | .non, _, h => by cases h; exact .non
  | .bl b, _, h => by cases h; exact .bl b
  | .int i, _, h => by cases h; exact .int i
  | .str x, _, h => by cases h; exact .str x
  | .lst ds, _, h => by
    cases h with
    | lst n ha hs => exact .lst (f _ n (by rw [ha]; exact fun z => nomatch z)) ha (DtA.set f ds hs)
  | .tup ds, _, h => by
    cases h with
    | tup n ha hs => exact .tup (f _ n (by rw [ha]; exact fun z => nomatch z)) ha (DtA.set f ds hs)
  | .ins C ns ds, _, h => by
    cases h with
    | ins n ha hn hs => exact .ins (f _ n (by rw [ha]; exact fun z => nomatch z)) ha hn (DtA.set f ds hs)
theorem DtA.set (f : ∀ a, ¬ S a → H a ≠ none → ¬ S' a) : ∀ (ds : List D) {vs : List V}, DtA S H vs ds → DtA S' H vs ds
  | [], _, h => by cases h; exact .nil
  | d :: ds, _, h => by
    cases h with
    | cons h1 h2 => exact .cons (Dt.set f d h1) (DtA.set f ds h2)
end
theorem Dt.go {d : D} {v : V} (h : Dt S H v d) (e : Ext S H H') : Dt S H' v d := Dt.mono e d h
theorem Dt.sm {d : D} {v : V} (h : Dt S H v d) (e : Same H H') : Dt S H' v d := Dt.mono (Ext.of e) d h
theorem DtA.go {d : List D} {v : List V} (h : DtA S H v d) (e : Ext S H H') : DtA S H' v d := DtA.mono e d h
theorem DtA.sm {d : List D} {v : List V} (h : DtA S H v d) (e : Same H H') : DtA S H' v d := DtA.mono (Ext.of e) d h
/-- a new object may change from now on -/
theorem Dt.fresh {d : D} {v : V} {l : Addr} (h : Dt S H v d) (hl : H l = none) : Dt (fun a => S a ∨ a = l) H v d :=
  Dt.set (fun a n k z => z.elim n fun q => k (by rw [q]; exact hl)) d h
theorem Dt.fresh1 {d : D} {v : V} {l : Addr} (h : Dt N0 H v d) (hl : H l = none) : Dt (fun a => a = l) H v d :=
  Dt.set (fun a _ k z => k (by rw [z]; exact hl)) d h
theorem DtA.fresh1 {d : List D} {v : List V} {l : Addr} (h : DtA N0 H v d) (hl : H l = none) : DtA (fun a => a = l) H v d :=
  DtA.set (fun a _ k z => k (by rw [z]; exact hl)) d h
/-- nothing changes any more -/
theorem Dt.n0 {d : D} {v : V} (h : Dt S H v d) : Dt N0 H v d := Dt.set (fun _ _ _ z => z) d h
theorem DtA.n0 {d : List D} {v : List V} (h : DtA S H v d) : DtA N0 H v d := DtA.set (fun _ _ _ z => z) d h
theorem DtA.length : ∀ {vs : List V} {ds : List D}, DtA S H vs ds → vs.length = ds.length
  | _, _, .nil => rfl
  | _, _, .cons _ t => congrArg Nat.succ (DtA.length t)
theorem DtA.append : ∀ {vs ws : List V} {ds es : List D}, DtA S H vs ds → DtA S H ws es → DtA S H (vs ++ ws) (ds ++ es)
  | _, _, _, _, .nil, k => k
  | _, _, _, _, .cons h t, k => .cons h (DtA.append t k)
theorem DtA.snoc {vs : List V} {ds : List D} {v : V} {d : D} (h : DtA S H vs ds) (k : Dt S H v d) : DtA S H (vs ++ [v]) (ds ++ [d]) := h.append (.cons k .nil)
theorem DtA.get : ∀ {vs : List V} {ds : List D} {i : Nat} {d : D}, DtA S H vs ds → ds[i]? = some d → ∃ v, vs[i]? = some v ∧ Dt S H v d
  | _, _, _, _, .nil, e => by simp at e
  | _, _, 0, _, .cons h _, e => by
    simp at e
    subst e
    exact ⟨_, rfl, h⟩
  | _, _, i + 1, d, .cons _ t, e => by
    obtain ⟨v, h1, h2⟩ := DtA.get (i := i) (d := d) t (by simpa using e)
    exact ⟨v, by simpa using h1, h2⟩
theorem DtA.getV : ∀ {vs : List V} {ds : List D} {i : Nat} {v : V}, DtA S H vs ds → vs[i]? = some v → ∃ d, ds[i]? = some d ∧ Dt S H v d
  | _, _, _, _, .nil, e => by simp at e
  | _, _, 0, _, .cons h _, e => by
    simp at e
    subst e
    exact ⟨_, rfl, h⟩
  | _, _, i + 1, d, .cons _ t, e => by
    obtain ⟨v, h1, h2⟩ := DtA.getV (i := i) (v := d) t (by simpa using e)
    exact ⟨v, by simpa using h1, h2⟩
theorem DtA.take : ∀ {vs : List V} {ds : List D} (n : Nat), DtA S H vs ds → DtA S H (vs.take n) (ds.take n)
  | _, _, 0, _ => .nil
  | _, _, _ + 1, .nil => .nil
  | _, _, n + 1, .cons h t => .cons h (DtA.take n t)
theorem DtA.drop : ∀ {vs : List V} {ds : List D} (n : Nat), DtA S H vs ds → DtA S H (vs.drop n) (ds.drop n)
  | _, _, 0, h => h
  | _, _, _ + 1, .nil => .nil
  | _, _, n + 1, .cons _ t => DtA.drop n t
theorem DtA.reverse : ∀ {vs : List V} {ds : List D}, DtA S H vs ds → DtA S H vs.reverse ds.reverse
  | _, _, .nil => .nil
  | _, _, .cons h t => by
    rw [List.reverse_cons, List.reverse_cons]
    exact (DtA.reverse t).snoc h
theorem DtA.strs : ∀ (l : List Str), DtA S H (l.map V.str) (l.map D.str)
  | [] => .nil
  | x :: l => .cons (.str x) (DtA.strs l)
theorem DtA.ints : ∀ (l : List Int), DtA S H (l.map V.int) (l.map D.int)
  | [] => .nil
  | x :: l => .cons (.int x) (DtA.ints l)
theorem DtA.bls : ∀ (l : List Bool), DtA S H (l.map V.bl) (l.map D.bl)
  | [] => .nil
  | x :: l => .cons (.bl x) (DtA.bls l)
theorem DtA.strs_eq : ∀ {vs : List V} {l : List Str}, DtA S H vs (l.map D.str) → vs = l.map V.str
  | _, [], h => by cases h; rfl
  | _, x :: l, h => by
    cases h with
    | cons h1 h2 =>
      cases h1
      rw [DtA.strs_eq h2]
      rfl
theorem DtA.ints_eq : ∀ {vs : List V} {l : List Int}, DtA S H vs (l.map D.int) → vs = l.map V.int
  | _, [], h => by cases h; rfl
  | _, x :: l, h => by
    cases h with
    | cons h1 h2 =>
      cases h1
      rw [DtA.ints_eq h2]
      rfl
theorem DtA.bls_eq : ∀ {vs : List V} {l : List Bool}, DtA S H vs (l.map D.bl) → vs = l.map V.bl
  | _, [], h => by cases h; rfl
  | _, x :: l, h => by
    cases h with
    | cons h1 h2 =>
      cases h1
      rw [DtA.bls_eq h2]
      rfl
end

/-! ### data in which no list stands -/
mutual
def D.flat : D → Bool
  | .lst _ => false
  | .tup ds => D.flats ds
  | .ins _ _ ds => D.flats ds
  | _ => true
def D.flats : List D → Bool
  | [] => true
  | d :: ds => D.flat d && D.flats ds
end
mutual
theorem Dt.nl {H : Hp} {l : Addr} {xs : List V} (hl : H l = some (.lst xs)) : ∀ (d : D) {v : V}, D.flat d = true → Dt N0 H v d → Dt (fun a => a = l) H v d
  | .non, _, _, h => by cases h; exact .non
  | .bl b, _, _, h => by cases h; exact .bl b
  | .int i, _, _, h => by cases h; exact .int i
  | .str x, _, _, h => by cases h; exact .str x
  | .lst ds, _, f, _ => by rw [D.flat] at f; cases f
  | .tup ds, _, f, h => by
    rw [D.flat] at f
    cases h with
    | tup n ha hs => exact .tup (fun z => by rw [z, hl] at ha; cases ha) ha (DtA.nl hl ds f hs)
  | .ins C ns ds, _, f, h => by
    rw [D.flat] at f
    cases h with
    | ins n ha hn hs => exact .ins (fun z => by rw [z, hl] at ha; cases ha) ha hn (DtA.nl hl ds f hs)
theorem DtA.nl {H : Hp} {l : Addr} {xs : List V} (hl : H l = some (.lst xs)) : ∀ (ds : List D) {vs : List V}, D.flats ds = true → DtA N0 H vs ds → DtA (fun a => a = l) H vs ds
  | [], _, _, h => by cases h; exact .nil
  | d :: ds, _, f, h => by
    rw [D.flats, Bool.and_eq_true] at f
    cases h with
    | cons h1 h2 => exact .cons (Dt.nl hl d f.1 h1) (DtA.nl hl ds f.2 h2)
end
theorem flats_map {α : Type} {f : α → D} (h : ∀ x, D.flat (f x) = true) : ∀ l : List α, D.flats (l.map f) = true
  | [] => by rw [List.map_nil, D.flats]
  | x :: l => by rw [List.map_cons, D.flats, h x, flats_map h l]; rfl
theorem flat_of_mem : ∀ {l : List D}, (∀ d ∈ l, D.flat d = true) → D.flats l = true
  | [], _ => by rw [D.flats]
  | d :: l, h => by rw [D.flats, h d List.mem_cons_self, flat_of_mem (fun e he => h e (List.mem_cons_of_mem _ he))]; rfl
theorem mem_of_flats : ∀ {l : List D}, D.flats l = true → ∀ d ∈ l, D.flat d = true
  | d :: l, h, e, he => by
    rw [D.flats, Bool.and_eq_true] at h
    rcases List.mem_cons.mp he with z | z
    · rw [z]
      exact h.1
    · exact mem_of_flats h.2 e z

/-! ### data without instances, as the library's -/
mutual
def D.py : D → Option PyData
  | .non => some .none
  | .bl b => some (.bool b)
  | .int i => some (.int i)
  | .str x => some (.str x)
  | .lst ds => (D.pys ds).map .list
  | .tup ds => (D.pys ds).map .tuple
  | .ins _ _ _ => none
def D.pys : List D → Option (List PyData)
  | [] => some []
  | d :: ds => match D.py d, D.pys ds with
    | some p, some q => some (p :: q)
    | _, _ => none
end
mutual
theorem Dt.dp {K : PySem.W.Frag} {S : Addr → Prop} {H : Hp} : ∀ (d : D) {v : V} {p : PyData}, Dt S H v d → D.py d = some p → Dp K H v p
  | .non, _, _, h, e => by cases h; cases e; exact .non
  | .bl b, _, _, h, e => by cases h; cases e; exact .bl b
  | .int i, _, _, h, e => by cases h; cases e; exact .int i
  | .str x, _, _, h, e => by cases h; cases e; exact .str x
  | .lst ds, _, _, h, e => by
    cases h with
    | lst n ha hs =>
      rw [D.py] at e
      cases q : D.pys ds with
      | none => rw [q] at e; cases e
      | some l =>
        rw [q] at e
        cases e
        exact .lst (SqL.of ha) (DtA.dp ds hs q)
  | .tup ds, _, _, h, e => by
    cases h with
    | tup n ha hs =>
      rw [D.py] at e
      cases q : D.pys ds with
      | none => rw [q] at e; cases e
      | some l =>
        rw [q] at e
        cases e
        exact .tup (SqT.of ha) (DtA.dp ds hs q)
  | .ins C ns ds, _, _, h, e => by rw [D.py] at e; cases e
theorem DtA.dp {K : PySem.W.Frag} {S : Addr → Prop} {H : Hp} : ∀ (ds : List D) {vs : List V} {ps : List PyData}, DtA S H vs ds → D.pys ds = some ps → DpAll K H vs ps
  | [], _, _, h, e => by cases h; rw [D.pys] at e; cases e; exact .nil
  | d :: ds, _, _, h, e => by
    cases h with
    | cons h1 h2 =>
      rw [D.pys] at e
      cases q1 : D.py d with
      | none => rw [q1] at e; cases e
      | some p =>
        cases q2 : D.pys ds with
        | none => rw [q1, q2] at e; cases e
        | some ps =>
          rw [q1, q2] at e
          cases e
          exact .cons (Dt.dp d h1 q1) (DtA.dp ds h2 q2)
end
theorem pys_strs : ∀ l : List Str, D.pys (l.map D.str) = some (l.map PyData.str)
  | [] => by rw [List.map_nil, D.pys]; rfl
  | x :: l => by rw [List.map_cons, D.pys, pys_strs l, D.py]; rfl
theorem pys_ints : ∀ l : List Int, D.pys (l.map D.int) = some (l.map PyData.int)
  | [] => by rw [List.map_nil, D.pys]; rfl
  | x :: l => by rw [List.map_cons, D.pys, pys_ints l, D.py]; rfl
end U

/-! U2: defs that may ask which shows are under way (FnG), the law's end over them, repr, calls by keywords alone. -/
namespace U
open PySem PySem.Spec PyProof.Rows L2

/-- a def's promise where no show is under way -/
structure FnG (P : Program) (w : World) (K : PySem.W.Frag) (mg : Str → Option Value) (base : Heap) (k : Nat) (f : Addr) (fd : FuncData) (ps : List Str) (sp : Sp) : Prop where
  len : ∀ vs H Q E, sp vs H Q E → vs.length = ps.length
  run : ∀ (A : Around) (outer : List Env) (s : Shared) (H : Hp) (args : Args) (us : List Value) (vs : List V) (Q : VK) (E : XK), Room k A → A.guards = some [] →
    Env0 P w K mg base A outer s H → BindsTo s fd args (ps.zip us) → Vals vs us → sp vs H Q E → codeAny (model P w) A (.call (.ref f) args) (CR L2.CX0 outer P w H s Q E) s

section
variable {P : Program} {w : World} {K : PySem.W.Frag} {mg : Str → Option Value} {base : Heap} {x qual : Str} {st : Stmt} {f : Addr} {fd : FuncData} {N ps : List Str} {k : Nat} {sp : Sp}
/-- by its body -/
theorem fnG_of (F : L2.Fun K x qual st f fd) (S : FnScope N ps (L2.defScope st)) (len : ∀ vs H Q E, sp vs H Q E → vs.length = ps.length)
    (hb : ∀ (cdv : Value) (A : Around) (outer : List Env) (s : Shared) (H : Hp) (vs : List V) (Q : VK) (E : XK), Room k (A.deeper (envOfC qual (L2.defScope st) s.heap.objs.size f cdv)) → A.guards = some [] → sp vs H Q E →
      ∃ t, PSs (cxOf L2.CX0 P w K mg base N qual (L2.defScope st) f cdv A outer s H E).nox (L2.defBody st) t ∧ t { nx := fun _ H' => Q .non H', rt := Q } (start N vs) H) :
    FnG P w K mg base (k + 1) f fd ps sp := by
  obtain ⟨oc, od, kV, doc, pm, an, cdv, ct, osl, rfl, lk, hcd⟩ := F.ex
  refine ⟨len, fun A outer s H args us vs Q E hr hg e0 hbd r hsp => ?_⟩
  have hl : vs.length = ps.length := len _ _ _ _ hsp
  have KX : K.In s.heap := e0.mod.kin.keeps (fun b o e => (e0.bs b o e).1)
  have lim : s.heap.NoLimit := e0.mod.nolimit.keeps (fun b o e => (e0.bs b o e).1)
  have kinds : ∀ y ∈ ps.zip us, (L2.defScope st).names.lookup y.1 = some .local ∨ ((L2.defScope st).names.lookup y.1 = some .cell ∧ ((cellsFrom (s.heap.objs.size + 1) (L2.defScope st).names []).lookup y.1).isSome = true) := by
    rintro ⟨n, v⟩ hy
    rcases S.par n (List.of_mem_zip hy).1 with q | q
    · exact Or.inl q
    · exact Or.inr ⟨q, PySem.W.cellsFrom_some _ _ _ (Or.inl q)⟩
  have lkd := KX _ _ lk
  have crec := PySem.W.codeRec_of KX hcd
  refine codeAny_call_function hr.depth lkd rfl S.co S.gen rfl crec (hbd _ _ _ _ ?_)
  refine wpAny_newFunctionEnv_cells S.kind kinds (fun env he s1 z => ?_)
  subst he
  refine ⟨lim.keeps z.toInCall.keep, codeAny_func ?_⟩
  have hr1 := hr.deeper (envOfC qual (L2.defScope st) s.heap.objs.size f cdv)
  obtain ⟨t, ht0, hq⟩ := hb cdv A outer s H vs Q E hr1 hg hsp
  have ht := ht0.nox
  have I := inv_start (CX := L2.CX0) (E := E) S hr.hd e0 hl r z
  have go := ht.run [] s1 (start N vs) H _ I hq
  refine wpAny_mono go ?_ (fun e s' hs => hs)
  intro fl s' hs
  cases fl with
  | next =>
    obtain ⟨σ', H', J, q⟩ := hs
    exact ⟨V.non, H', J.os, J.bare, J.base, J.hok, rfl, q⟩
  | brk =>
    obtain ⟨_, _, _, q⟩ := hs
    exact q.elim
  | cont =>
    obtain ⟨_, _, _, q⟩ := hs
    exact q.elim
  | ret u =>
    obtain ⟨v, σ', H', J, rv, q⟩ := hs
    exact ⟨v, H', J.os, J.bare, J.base, J.hok, rv, q⟩
theorem FnG.of_ok (F : FnOk P w K mg base L2.CX0 k f fd ps sp) : FnG P w K mg base k f fd ps sp :=
  ⟨F.len, fun A outer s H args us vs Q E hr _ => F.run A outer s H args us vs Q E hr⟩
end

section
variable {X : Cx} {k : Nat} {f C : Addr} {fd : FuncData} {ps ks : List Str} {sp : Sp} {x : Str} {p pos : Pos} {e : Expr} {es : List Expr} {t tk : TA} {kws : List Keyword}
/-- x(e, ..), x a def with such a promise -/
theorem pe_callG (F : FnG X.prog X.w X.K X.mg X.base k f fd ps sp) (hr : Room k X.A) (hgd : X.A.guards = some []) (hg : Gl X x) (hm : X.mg x = some (.ref f)) (hk : PySem.W.keepIn X.K (.ref f) = true) (hb : Binds X.K fd ps [])
    (ha : PA X (e :: es) t) (hdb : (x == ("__debug__" : Str)) = false := by decide) (he : starEach (e :: es) X.env = (false, eval e X.env) :: starEach es X.env := by rfl) (hpl : (backTo pos (starEach es X.env)).any (·.1) = false := by rfl) :
    PE X (.Call (.Name x p) (e :: es) [] pos) (tCall sp [] L2.E0 t) := by
  refine ⟨fun pins s σ H Q I h => wpAny_Call_Name_kw (ld_glob I hg hm ?_ hdb)⟩
  have ga := thn (ha.run pos pins s σ H _ I h) (Q' := fun us s1 => X.K.In s1.heap ∧ wpAny (model X.prog X.w) X.A (call (.ref f) us) (EP X pins σ Q) X.xe s1) (fun us s1 hh => by
    obtain ⟨vs, H1, I1, r, q⟩ := hh
    rw [List.append_nil] at q
    refine ⟨I1.kIn, ?_⟩
    have hl : (us ++ []).length = ps.length := by rw [List.append_nil, ← r.length]; exact F.len _ _ _ _ q
    have hbt := hb s1 us I1.kIn hl
    rw [List.append_nil] at hbt
    refine wpAny_call (codeAny_mono (F.run X.A X.stack s1 H1 ⟨us, []⟩ us vs Q L2.E0 hr hgd I1.env0 hbt r q) ?_)
    intro r' s' hq
    cases r' with
    | error z => exact False.elim hq
    | ok fl =>
      cases fl with
      | ret u => exact I1.after hq
      | next => exact False.elim hq
      | brk => exact False.elim hq
      | cont => exact False.elim hq)
  exact PySem.W.callWith_K (h₀ := X.base) I.ok.mod.kin hk ga he hpl
/-- x(k = v, ..): keywords alone -/
theorem pe_callN0 {g : List Value → List Value → List Value} {gV : List V → List V → List V} (F : FnOk X.prog X.w X.K X.mg X.base L2.CX0 k f fd ps sp) (hr : Room k X.A) (hg : Gl X x) (hm : X.mg x = some (.ref f)) (hk : PySem.W.keepIn X.K (.ref f) = true)
    (hb : KBn X.K fd ps 0 ks g gV) (hkw : PK X kws tk) (hall : (backToKw pos (keywordEach kws X.env)).all (·.1.isSome) = true := by rfl) (hks : (backToKw pos (keywordEach kws X.env)).filterMap (·.1) = ks := by rfl)
    (hdb : (x == ("__debug__" : Str)) = false := by decide) (hpl : ((backTo pos (starEach [] X.env)).any (·.1) || (backToKw pos (keywordEach kws X.env)).any (·.1.isNone)) = false := by rfl) :
    PE X (.Call (.Name x p) [] kws pos) (tCallN 0 ks.length sp gV L2.E0 tNil tk) := by
  refine ⟨fun pins s σ H Q I h => wpAny_Call_Name_kw (ld_glob I hg hm ?_ hdb)⟩
  have gk := thn (hkw.run pos pins s σ H _ I h) (Q' := fun ws s2 => X.K.In s2.heap ∧ wpAny (model X.prog X.w) X.A (call (.ref f) [] (ks.zip ws)) (EP X pins σ Q) X.xe s2) (fun ws s2 hh => by
    obtain ⟨zs, H2, I2, rz, l1, l2, q2⟩ := hh
    exact ⟨I2.kIn, run_fnN (us := []) (vs := []) F hr hb pass0 I2 .nil rz rfl l2 q2⟩)
  rw [← hks] at gk
  exact PySem.W.callWith_KW0 (h₀ := X.base) I.ok.mod.kin hk hall gk hpl
end

/-! ### repr of data -/
def rRepr (K : PySem.W.Frag) : List V → Hp → VK → Prop := fun xs H Q => ∃ (v : V) (p : PyData), xs = [v] ∧ Dp K H v p ∧ PyData.showable p = true ∧ PyData.hasDict p = false ∧ PyData.depth p ≤ 40 ∧ (PyData.shown p).length ≤ sizeLine ∧ Q (.str (PyData.shown p)) H
theorem call_repr {X : Cx} (hg : X.A.guards = some []) (hu : X.A.units + 64 < cLine) : CallR X (.builtin "repr") (rRepr X.K) := by
  intro pins s σ H xs us Q I r h
  obtain ⟨v, p, rfl, hd, hs, hn, hdp, hz, q⟩ := h
  obtain ⟨u, rfl, ru⟩ := vals1 r
  have fin : ∀ (h' : Heap) (tu : Tok) (tk : Nat), (∀ b o, s.heap.get? b = some o → h'.get? b = some o) → EP X pins σ Q (.str (PyData.shown p) tu) { s with heap := h', toks := tk } :=
    fun h' tu tk hk => ⟨.str (PyData.shown p), H, I.kept hk, ⟨_, rfl⟩, q⟩
  obtain ⟨as, rd⟩ := Dp.reads I p v u hd ru
  cases hd with
  | non =>
    cases ru
    rw [PyData.shown_none] at fin
    exact P.repr_of_none (fin _ _ _ fun _ _ e => e)
  | bl b =>
    cases ru
    rw [PyData.shown_bool] at fin
    exact P.repr_of_bool (fin _ _ _ fun _ _ e => e)
  | int i =>
    obtain ⟨t, rfl⟩ := ru
    rw [PyData.shown_int] at fin
    have hi : i.natAbs.log2 < 1920 := by simpa [PyData.showable] using hs
    exact P.repr_of_int hi (fin _ _ _ fun _ _ e => e)
  | str y =>
    obtain ⟨t, rfl⟩ := ru
    rw [PyData.shown_str] at fin hz
    exact P.repr_of_str (fin _ _ _ fun _ _ e => e) hz
  | lst _ _ =>
    cases ru
    exact repr_of_reads' (h₀ := s.heap) rd hs (fun z => by rw [hn] at z; cases z) hg (by omega) (fun _ _ e => e) (fun h' tu tk hk => fin h' tu tk hk) hz
  | tup _ _ =>
    cases ru
    exact repr_of_reads' (h₀ := s.heap) rd hs (fun z => by rw [hn] at z; cases z) hg (by omega) (fun _ _ e => e) (fun h' tu tk hk => fin h' tu tk hk) hz
end U

/-! U3: the law's end over FnG; a list of three ints that draws change, told once for all (potO). -/
namespace U
open PySem PySem.Spec PyProof.Rows L2

/-! ### the law's end -/
def spLaw (K : PySem.W.Frag) : Sp := fun vs H Q _ => ∃ (a : Addr) (ns : List Int), vs = [.ref a] ∧ SqL K H a (ns.map V.int) ∧ ns.length ≤ 63 ∧ ∀ H', Q (.bl true) H'
def scrO (vs : List Value) : Obj := { cls := .type "list", data := .seq vs.toArray }
/-- the script alone is tracked, where it is none of the written part -/
noncomputable def scrH (K : PySem.W.Frag) (a : Addr) (vs : List Value) (ns : List Int) : Hp := fun b => if b = a ∧ K.lookup a = none then some (.frz (scrO vs) (.lst (ns.map V.int))) else none
theorem scrH_some {K : PySem.W.Frag} {a b : Addr} {vs : List Value} {ns : List Int} {u : HO} (h : scrH K a vs ns b = some u) : b = a ∧ K.lookup a = none ∧ u = .frz (scrO vs) (.lst (ns.map V.int)) := by
  unfold scrH at h
  split at h
  · rename_i c
    exact ⟨c.1, c.2, (Option.some.inj h).symm⟩
  · cases h
theorem lawG {P : Program} {w : World} {K : PySem.W.Frag} {mg mb : Str → Option Value} {k : Nat} {fa a : Addr} {fd : FuncData} {x : Str} {s : Shared} {vs : List Value} {ns : List Int}
    (KX : K.In s.heap) (hns : s.heap.Ns mainGlobals mg) (hb : s.heap.Ns builtinsNs mb) (hbb : ∀ y : Str, y ≠ "__name__" → mb y = bootBuiltins y) (hlim : s.heap.NoLimit) (hgen : s.gens = #[])
    (ha : s.heap.get? a = some (scrO vs)) (hi : IntsAre vs ns) (hl : ns.length ≤ 63) (hr : Room k callerA)
    (F : ∀ base : Heap, K.In base → base.Ns mainGlobals mg → FnG P w K mg base k fa fd [x] (spLaw K)) (hbind : ∀ (t : Shared) (u : Value), BindsTo t fd ⟨[u], []⟩ [(x, u)]) :
    codeAny (model P w) callerA (.call (.ref fa) ⟨[.ref a], []⟩) (fun r s' => r = .ok (.ret (.bool true)) ∧ OldK s.heap s'.heap ∧ s'.os = s.os ∧ AllBare s'.gens) s := by
  have rv := vals_ints hi
  have lenV := hi.length
  have hsz : ns.length ≤ sizeLine := Nat.le_trans hl (by decide)
  have hok : HOk P w (scrH K a vs ns) s.heap := by
    intro b u e
    obtain ⟨rfl, _, rfl⟩ := scrH_some e
    exact ⟨ha, by rw [List.length_map]; exact hsz, vs, _, rv, ha⟩
  have untr : ∀ {b : Addr} {o : Obj} {es : Array DictEntry} {ep : Nat}, s.heap.get? b = some o → o.data = .dict es ep → scrH K a vs ns b = none := by
    intro b o es ep e d
    cases q : scrH K a vs ns b with
    | none => rfl
    | some u =>
      obtain ⟨rfl, _, _⟩ := scrH_some q
      rw [ha] at e
      cases e
      cases d
  have nsB : ∀ {b : Addr} {m : Str → Option Value}, s.heap.Ns b m → (hidT s.heap (scrH K a vs ns)).Ns b m := by
    rintro b m ⟨o, es, ep, e, d, r⟩
    exact ⟨o, es, ep, hidT_get e (untr e d), d, r⟩
  have KB : K.In (hidT s.heap (scrH K a vs ns)) := by
    intro b o e
    refine hidT_get (KX b o e) ?_
    cases q : scrH K a vs ns b with
    | none => rfl
    | some u =>
      obtain ⟨rfl, z, _⟩ := scrH_some q
      rw [z] at e
      cases e
  have hS : SqL K (scrH K a vs ns) a (ns.map V.int) := by
    cases hk : K.lookup a with
    | none => exact .inl (.inr ⟨scrO vs, if_pos ⟨rfl, hk⟩⟩)
    | some o =>
      have e := KX a o hk
      rw [ha] at e
      cases e
      refine .inr ⟨scrO vs, vs.toArray, _, hk, rfl, rfl, rfl, ?_, ?_⟩
      · rw [List.size_toArray, lenV]
        exact hsz
      · simpa using rv
  have hM : Mod K mg (hidT s.heap (scrH K a vs ns)) := by
    obtain ⟨mc, h1, h2⟩ := hlim
    exact ⟨KB, nsB hns, ⟨mb, nsB hb, hbb⟩, mc, nsB h1, h2⟩
  have e0 : Env0 P w K mg (hidT s.heap (scrH K a vs ns)) callerA [] s (scrH K a vs ns) :=
    ⟨rfl, hM, fun b o e => of_hidT e, Nat.le_of_eq (hidT_size _ _), trivial, (fun b hb => by cases hb), hok, .of_eq hgen⟩
  have go := (F _ KB (nsB hns)).run callerA [] s _ ⟨[.ref a], []⟩ [.ref a] [.ref a] (fun v _ => v = .bl true) (fun _ _ _ => False) hr rfl e0 (hbind s (.ref a)) (.cons rfl .nil) ⟨a, ns, rfl, hS, hl, fun _ => rfl⟩
  refine codeAny_mono go ?_
  intro r s' h
  cases r with
  | error e => exact False.elim h
  | ok fl =>
    cases fl with
    | next => exact False.elim h
    | brk => exact False.elim h
    | cont => exact False.elim h
    | ret u =>
      obtain ⟨v, H', os, bare, un, hok', r', rfl⟩ := h
      cases (show u = Value.bool true from r')
      refine ⟨rfl, OldK.of_keep ?_, os, bare⟩
      intro b o e
      cases q : scrH K a vs ns b with
      | none => exact un.keep b o e q (fun z => by cases z) (fun z => by cases z)
      | some u =>
        obtain ⟨rfl, _, rfl⟩ := scrH_some q
        have z2 := un.frzs _ _ _ q
        obtain ⟨e2, _⟩ := hok' _ _ z2
        rw [ha] at e
        cases e
        exact e2
theorem walkG {l : PySem.W.OpenLaw} {k : Nat} {q : Program} {loose : List Str} {XP : (Str → Option Value) → Heap → Prop} {YP : World → Heap → Prop} {d : DefRec} {K : Params → PySem.W.Frag} {x : Str}
    (hn : l.most = some 63) (hdf : d.params.defaults = []) (hr : Room k callerA) (hY : ∀ (w : World) (h : Heap), YP w h → (K w.params).In h)
    (F : ∀ (w : World) (mg : Str → Option Value) (fa : Addr) (h : Heap), (K w.params).In h → h.Ns mainGlobals mg → mg d.name = some (.ref fa) →
      ∃ fd : FuncData, (∀ (t : Shared) (u : Value), BindsTo t fd ⟨[u], []⟩ [(x, u)]) ∧ ∀ base : Heap, (K w.params).In base → base.Ns mainGlobals mg → FnG l.prog w (K w.params) mg base k fa fd [x] (spLaw (K w.params))) :
    PySem.W.WalkO q loose XP YP l.row.toRowW d [] (fun f vs => PySem.call f vs) := by
  refine Att.attach_call hn hdf ?_
  intro w s₀ s₁ mg mb fa o pm cd doc a vs ns G Y ho hd hcd hmg hobj hints hlen hg
  obtain ⟨fd, hb, hF⟩ := F w mg fa _ (hY w _ Y) G.T.g hmg
  exact lawG (hY w _ Y) G.T.g G.T.b G.T.builtins G.T.nolimit hg hobj hints hlen hr hF hb

/-! ### another view of one object -/
section
variable {P : Program} {w : World} {H H1 H2 : Hp} {h h' : Heap} {p : Addr} {o : HO} {φ : Heap → Prop} {fs ex : List Addr}
theorem hok_in (ok : HOk P w H h) (hp : H p = some (.ext φ)) (new : ObjOk P w (upd H p o) h p o) : HOk P w (upd H p o) h := by
  intro b u e
  by_cases hb : b = p
  · subst hb
    rw [upd_same] at e
    cases e
    exact new
  · rw [upd_ne hb] at e
    refine (ok b u e).stay (fun c v _ q => q) (fun c q => ?_) (fun c xs q => ?_)
    · rw [upd_ne (fun z => by rw [z, hp] at q; cases q)]
      exact q
    · rw [upd_ne (fun z => by rw [z, hp] at q; cases q)]
      exact q
theorem hok_out {xs : List V} (ok : HOk P w H h) (hp : H p = some (.lst xs)) (hφ : φ h) (st : ∀ h1 h2 : Heap, φ h1 → (∀ u, h1.get? p = some u → h2.get? p = some u) → φ h2) : HOk P w (upd H p (.ext φ)) h := by
  intro b u e
  by_cases hb : b = p
  · subst hb
    rw [upd_same] at e
    cases e
    obtain ⟨_, its, n, _, z⟩ := ok _ _ hp
    exact ⟨hφ, ⟨_, z⟩, st⟩
  · rw [upd_ne hb] at e
    refine (ok b u e).stay (fun c v _ q => q) (fun c q => ?_) (fun c xs q => ?_)
    · rw [upd_ne (fun z => by rw [z, hp] at q; cases q)]
      exact q
    · rw [upd_ne (fun z => by rw [z, hp] at q; cases q)]
      exact q
theorem un_in (u : Un fs ex (upd H p o) H1 h h') (hp : H p = some (.ext φ)) : Un fs ex H H1 h h' := by
  have nn : ∀ b, H b = none → upd H p o b = none := fun b n => by
    rw [upd_ne (fun z => by rw [z, hp] at n; cases n)]
    exact n
  have ne : ∀ b v, H b = some v → (∀ ψ, v ≠ .ext ψ) → upd H p o b = some v := fun b v e n => by
    rw [upd_ne (fun z => by rw [z, hp] at e; cases e; exact n _ rfl)]
    exact e
  exact ⟨fun b v e n => u.keep b v e (nn b n), fun b v e n => u.slot b v e (nn b n), fun b v e n => u.free b v e (nn b n), u.there,
    fun b xs e => u.tups b xs (ne b _ e (fun _ z => nomatch z)), fun b v t e => u.frzs b v t (ne b _ e (fun _ z => nomatch z)), fun b ps e => u.tbls b ps (ne b _ e (fun _ z => nomatch z))⟩
theorem un_out {xs : List V} (u : Un fs ex H H1 h h') (hp : H1 p = some (.lst xs)) : Un fs ex H (upd H1 p (.ext φ)) h h' := by
  have ne : ∀ b v, H1 b = some v → (∀ ys, v ≠ .lst ys) → upd H1 p (.ext φ) b = some v := fun b v e n => by
    rw [upd_ne (fun z => by rw [z, hp] at e; cases e; exact n _ rfl)]
    exact e
  refine ⟨u.keep, u.slot, fun b v e n hx => ?_, u.there, fun b xs e => ne b _ (u.tups b xs e) (fun _ z => nomatch z), fun b v t e => ne b _ (u.frzs b v t e) (fun _ z => nomatch z), fun b ps e => ?_⟩
  · have z := u.free b v e n hx
    rw [upd_ne (fun q => by rw [q, hp] at z; cases z)]
    exact z
  · obtain ⟨m, e1⟩ := u.tbls b ps e
    exact ⟨m, ne b _ e1 fun _ z => nomatch z⟩
end

/-! ### the pot: a list of three ints -/
def potP (p : Addr) : Heap → Prop := fun h => ∃ (a b c : Int) (its : List Value) (n : Nat), Vals [.int a, .int b, .int c] its ∧ h.get? p = some { cls := .type "list", data := .seq its.toArray n }
def potO (p : Addr) : HO := .ext (potP p)
def Pot (H : Hp) (p : Addr) : Prop := H p = some (potO p)
def potL (a b c : Int) : HO := .lst [.int a, .int b, .int c]
theorem pot_st {p : Addr} : ∀ h1 h2 : Heap, potP p h1 → (∀ u, h1.get? p = some u → h2.get? p = some u) → potP p h2 := fun h1 h2 ⟨a, b, c, its, n, v, e⟩ k => ⟨a, b, c, its, n, v, k _ e⟩
theorem Pot.sm {H H' : Hp} {p : Addr} (h : Pot H p) (e : Same H H') : Pot H' p := e _ _ h
theorem Pot.go {S : Addr → Prop} {H H' : Hp} {p : Addr} (h : Pot H p) (e : Ext S H H') (n : ¬ S p) : Pot H' p := e _ _ n h
section
variable {P : Program} {w : World} {K : PySem.W.Frag} {mg : Str → Option Value} {base : Heap} {k : Nat} {f : Addr} {fd : FuncData} {ps : List Str} {sp sp' : Sp}
/-- a def that changes the pot: from its promise over the list itself -/
theorem fn_pot (F : FnOk P w K mg base L2.CX0 k f fd ps sp) (len : ∀ vs H Q E, sp' vs H Q E → vs.length = ps.length)
    (go : ∀ vs H Q E, sp' vs H Q E → ∃ p, Pot H p ∧ ∀ a b c, sp vs (upd H p (potL a b c)) (fun v H' => (∃ x y z, H' p = some (potL x y z)) ∧ Q v (upd H' p (potO p))) E) :
    FnOk P w K mg base L2.CX0 k f fd ps sp' := by
  refine ⟨len, fun A outer s H args us vs Q E hr e0 hb r hsp => ?_⟩
  obtain ⟨p, hp, g⟩ := go _ _ _ _ hsp
  obtain ⟨⟨a, b, c, its, n, rv, hget⟩, _, _⟩ := e0.hok p _ hp
  have np : ∀ b, H b = none → upd H p (potL a b c) b = none := fun b z => by
    rw [upd_ne (fun q => by rw [q, hp] at z; cases z)]
    exact z
  have np' : ∀ q, H q = none → upd H p (potL a b c) q = none := fun q z => by
    rw [upd_ne (fun t => by rw [t, hp] at z; cases z)]
    exact z
  have e1 : Env0 P w K mg base A outer s (upd H p (potL a b c)) :=
    ⟨e0.frames, e0.mod, fun q o e => ⟨(e0.bs q o e).1, np' q (e0.bs q o e).2⟩, e0.bsz, e0.funs, fun q hq => np' q (e0.frf q hq), hok_in e0.hok hp ⟨by show 3 ≤ sizeLine; decide, its, n, rv, hget⟩, e0.bare⟩
  refine codeAny_mono (F.run A outer s _ args us vs _ E hr e1 hb r (g a b c)) ?_
  intro r' s' hq
  cases r' with
  | error z => exact hq
  | ok fl =>
    cases fl with
    | next => exact hq
    | brk => exact hq
    | cont => exact hq
    | ret u =>
      obtain ⟨v, H', os, bare, un, hok', rel, ⟨x, y, z, hx⟩, q⟩ := hq
      have un2 := un_out (φ := potP p) (un_in un hp) hx
      obtain ⟨_, its', n', rv', e'⟩ := hok' p _ hx
      exact ⟨v, _, os, bare, un2, hok_out hok' hx ⟨x, y, z, its', n', rv', e'⟩ pot_st, rel, q⟩
/-- a def that makes a pot -/
theorem fn_potOut (F : FnOk P w K mg base L2.CX0 k f fd ps sp) (len : ∀ vs H Q E, sp' vs H Q E → vs.length = ps.length)
    (go : ∀ vs H Q E, sp' vs H Q E → sp vs H (fun v H' => ∃ p x y z, H' p = some (potL x y z) ∧ Q v (upd H' p (potO p))) E) :
    FnOk P w K mg base L2.CX0 k f fd ps sp' := by
  refine ⟨len, fun A outer s H args us vs Q E hr e0 hb r hsp => ?_⟩
  refine codeAny_mono (F.run A outer s _ args us vs _ E hr e0 hb r (go _ _ _ _ hsp)) ?_
  intro r' s' hq
  cases r' with
  | error z => exact hq
  | ok fl =>
    cases fl with
    | next => exact hq
    | brk => exact hq
    | cont => exact hq
    | ret u =>
      obtain ⟨v, H', os, bare, un, hok', rel, p, x, y, z, hx, q⟩ := hq
      obtain ⟨_, its', n', rv', e'⟩ := hok' p _ hx
      exact ⟨v, _, os, bare, un_out (φ := potP p) un hx, hok_out hok' hx ⟨x, y, z, its', n', rv', e'⟩ pot_st, rel, q⟩
end
/-- a draw: a number below n -/
def spDraw : Sp := fun vs H Q _ => ∃ (p : Addr) (n : Int), vs = [.ref p, .int n] ∧ Pot H p ∧ (0 < n ∧ n < 1073741824) ∧ ∀ (r : Int) (H' : Hp), Same H H' → 0 ≤ r → r < n → Q (.int r) H'
/-- .. over the list itself -/
def spDraw1 : Sp := fun vs H Q _ => ∃ (p : Addr) (n a b c : Int), vs = [.ref p, .int n] ∧ H p = some (potL a b c) ∧ (0 < n ∧ n < 1073741824) ∧
  ∀ (r x y z : Int) (H' : Hp), Ext (fun q => q = p) H H' → H' p = some (potL x y z) → 0 ≤ r → r < n → Q (.int r) H'
theorem fn_draw {P : Program} {w : World} {K : PySem.W.Frag} {mg : Str → Option Value} {base : Heap} {k : Nat} {f : Addr} {fd : FuncData} {ps : List Str} (F : FnOk P w K mg base L2.CX0 k f fd ps spDraw1) (h2 : ps.length = 2) : FnOk P w K mg base L2.CX0 k f fd ps spDraw := by
  refine fn_pot F (fun vs H Q E h => ?_) (fun vs H Q E h => ?_)
  · obtain ⟨p, n, rfl, _⟩ := h
    rw [h2]
    rfl
  · obtain ⟨p, n, rfl, hp, hn, q⟩ := h
    refine ⟨p, hp, fun a b c => ⟨p, n, a, b, c, rfl, upd_same, hn, fun r x y z H' e hx h0 h1 => ⟨⟨x, y, z, hx⟩, q r _ (fun c o hc => ?_) h0 h1⟩⟩⟩
    by_cases hb : c = p
    · subst hb
      rw [show H c = some (potO c) from hp] at hc
      cases hc
      exact upd_same
    · rw [upd_ne hb]
      exact e c o hb (by rw [upd_ne hb]; exact hc)
/-- a new pot -/
def spPot (K : PySem.W.Frag) : Sp := fun vs H Q _ => ∃ (a : Addr) (ns : List Int) (i : Nat), vs = [.ref a, .int i] ∧ SqL K H a (ns.map V.int) ∧ ns.length ≤ 63 ∧ i ≤ 63 ∧ ∀ (p : Addr) (H' : Hp), Same H H' → Pot H' p → Q (.ref p) H'
def spPot1 (K : PySem.W.Frag) : Sp := fun vs H Q _ => ∃ (a : Addr) (ns : List Int) (i : Nat), vs = [.ref a, .int i] ∧ SqL K H a (ns.map V.int) ∧ ns.length ≤ 63 ∧ i ≤ 63 ∧
  ∀ (p : Addr) (x y z : Int) (H' : Hp), Same H H' → H p = none → H' p = some (potL x y z) → Q (.ref p) H'
theorem fn_newPot {P : Program} {w : World} {K : PySem.W.Frag} {mg : Str → Option Value} {base : Heap} {k : Nat} {f : Addr} {fd : FuncData} {ps : List Str} (F : FnOk P w K mg base L2.CX0 k f fd ps (spPot1 K)) (h2 : ps.length = 2) : FnOk P w K mg base L2.CX0 k f fd ps (spPot K) := by
  refine fn_potOut F (fun vs H Q E h => ?_) (fun vs H Q E h => ?_)
  · obtain ⟨a, ns, i, rfl, _⟩ := h
    rw [h2]
    rfl
  · obtain ⟨a, ns, i, rfl, hS, hn, hi, q⟩ := h
    refine ⟨a, ns, i, rfl, hS, hn, hi, fun p x y z H' e hp hx => ⟨p, x, y, z, hx, q p _ (fun c o hc => ?_) upd_same⟩⟩
    rw [upd_ne (ne_of_none hc hp)]
    exact e c o hc
end U

/-! U4: operators by what their operands are; readings over data. -/
namespace U
open PySem PySem.Spec PyProof.Rows L2

section
variable {X : Cx}
/-! ### operators -/
def rAddU : R2 := fun x y H Q => match x, y with
  | .int i, .int j => Q (.int (i + j)) H
  | .str a, .str b => a.length + b.length ≤ sizeLine ∧ Q (.str (a ++ b)) H
  | .ref p, .ref q => ∃ xs ys, H p = some (.lst xs) ∧ H q = some (.lst ys) ∧ xs.length + ys.length ≤ sizeLine ∧ ∀ r, H r = none → Q (.ref r) (upd H r (.lst (xs ++ ys)))
  | _, _ => False
theorem op_addU : OpR X (binaryOp .Add) rAddU := by
  intro pins s σ H x y v u Q I rx ry h
  cases x with
  | int i =>
    cases y with
    | int j => exact op_add pins s σ H _ _ v u Q I rx ry ⟨i, j, rfl, rfl, h⟩
    | _ => exact h.elim
  | str a =>
    cases y with
    | str b => exact op_add_str pins s σ H _ _ v u Q I rx ry ⟨a, b, rfl, rfl, h.1, h.2⟩
    | _ => exact h.elim
  | ref p =>
    cases y with
    | ref q =>
      obtain ⟨xs, ys, h1, h2, h3, h4⟩ := h
      exact op_cat pins s σ H _ _ v u Q I rx ry ⟨p, q, xs, ys, rfl, rfl, h1, h2, h3, h4⟩
    | _ => exact h.elim
  | _ => exact h.elim
/-- == of anything: data by their contents -/
def rEqU (K : PySem.W.Frag) : R2 := fun x y H Q => match x, y with
  | .ref p, .ref q => ∃ d e, Dp K H (.ref p) d ∧ Dp K H (.ref q) e ∧ SeqAt.shaped d = true ∧ SeqAt.shaped e = true ∧ Q (.bl (PyData.eqv d e)) H
  | x, y => scal x y = true ∧ Q (.bl (decide (x = y))) H
def rNeU (K : PySem.W.Frag) : R2 := fun x y H Q => match x, y with
  | .ref p, .ref q => ∃ d e, Dp K H (.ref p) d ∧ Dp K H (.ref q) e ∧ SeqAt.shaped d = true ∧ SeqAt.shaped e = true ∧ Q (.bl (!PyData.eqv d e)) H
  | x, y => scal x y = true ∧ Q (.bl (!decide (x = y))) H
theorem op_eqU (hu : X.A.units + 64 < cLine) : OpR X (compareOp .Eq) (rEqU X.K) := by
  intro pins s σ H x y v u Q I rx ry h
  by_cases c : ∃ p q, x = .ref p ∧ y = .ref q
  · obtain ⟨p, q, rfl, rfl⟩ := c
    exact op_eqD hu pins s σ H _ _ v u Q I rx ry h
  · have h' : scal x y = true ∧ Q (.bl (decide (x = y))) H := by
      cases x <;> first | exact h | (cases y <;> first | exact h | exact (c ⟨_, _, rfl, rfl⟩).elim)
    exact op_eq pins s σ H _ _ v u Q I rx ry h'
theorem op_neU (hu : X.A.units + 64 < cLine) : OpR X (compareOp .NotEq) (rNeU X.K) := by
  intro pins s σ H x y v u Q I rx ry h
  by_cases c : ∃ p q, x = .ref p ∧ y = .ref q
  · obtain ⟨p, q, rfl, rfl⟩ := c
    exact op_neD hu pins s σ H _ _ v u Q I rx ry h
  · have h' : scal x y = true ∧ Q (.bl (!decide (x = y))) H := by
      cases x <;> first | exact h | (cases y <;> first | exact h | exact (c ⟨_, _, rfl, rfl⟩).elim)
    exact op_ne pins s σ H _ _ v u Q I rx ry h'
def rLtU : R2 := fun x y H Q => match x, y with
  | .int i, .int j => Q (.bl (decide (i < j))) H
  | .str i, .str j => Q (.bl (decide (i.cps.toList < j.cps.toList))) H
  | _, _ => False
theorem op_ltU : OpR X (compareOp .Lt) rLtU := by
  intro pins s σ H x y v u Q I rx ry h
  cases x with
  | int i =>
    cases y with
    | int j => exact op_lt pins s σ H _ _ v u Q I rx ry ⟨i, j, rfl, rfl, h⟩
    | _ => exact h.elim
  | str a =>
    cases y with
    | str b => exact op_lt_str pins s σ H _ _ v u Q I rx ry ⟨a, b, rfl, rfl, h⟩
    | _ => exact h.elim
  | _ => exact h.elim
/-- in, not in: a sign in a text, a flat thing in a list or tuple of flat things -/
def rInU (K : PySem.W.Frag) : R2 := fun x y H Q => match y with
  | .str z => ∃ c, x = .str ⟨#[c]⟩ ∧ Q (.bl (decide (c ∈ z.cps.toList))) H
  | .ref p => ∃ xs, (SqL K H p xs ∨ SqT K H p xs) ∧ flatV x = true ∧ xs.all flatV = true ∧ Q (.bl (inV x xs)) H
  | _ => False
def rNinU (K : PySem.W.Frag) : R2 := fun x y H Q => match y with
  | .str z => ∃ c, x = .str ⟨#[c]⟩ ∧ Q (.bl (!decide (c ∈ z.cps.toList))) H
  | .ref p => ∃ xs, (SqL K H p xs ∨ SqT K H p xs) ∧ flatV x = true ∧ xs.all flatV = true ∧ Q (.bl (!inV x xs)) H
  | _ => False
theorem op_inU : OpR X (compareOp .In) (rInU X.K) := by
  intro pins s σ H x y v u Q I rx ry h
  cases y with
  | str z =>
    obtain ⟨c, rfl, q⟩ := h
    exact op_in_sign pins s σ H _ _ v u Q I rx ry ⟨c, z, rfl, rfl, q⟩
  | ref p =>
    obtain ⟨xs, h1, h2, h3, q⟩ := h
    exact op_in_seq pins s σ H _ _ v u Q I rx ry ⟨p, xs, rfl, h1, h2, h3, q⟩
  | _ => exact h.elim
theorem op_ninU : OpR X (compareOp .NotIn) (rNinU X.K) := by
  intro pins s σ H x y v u Q I rx ry h
  cases y with
  | str z =>
    obtain ⟨c, rfl, q⟩ := h
    exact op_notIn_sign pins s σ H _ _ v u Q I rx ry ⟨c, z, rfl, rfl, q⟩
  | ref p =>
    obtain ⟨xs, h1, h2, h3, q⟩ := h
    exact op_notIn_seq pins s σ H _ _ v u Q I rx ry ⟨p, xs, rfl, h1, h2, h3, q⟩
  | _ => exact h.elim
/-- x[i] of a list, a tuple, a text -/
def rIxU (K : PySem.W.Frag) : R2 := fun x y H Q => match x, y with
  | .ref p, .int i => ∃ xs v, (SqL K H p xs ∨ SqT K H p xs) ∧ atI xs i = some v ∧ Q v H
  | .str z, .int i => ∃ c, z.length ≤ sizeLine ∧ atI z.cps.toList i = some c ∧ Q (.str ⟨#[c]⟩) H
  | _, _ => False
theorem ix_U : IxR X (rIxU X.K) := by
  intro value slice pins s σ H x y v u Q I rx ry h hs
  refine ix_seq value slice pins s σ H x y v u Q I rx ry ?_ hs
  cases x with
  | ref p =>
    cases y with
    | int i =>
      obtain ⟨xs, w, h1, h2, q⟩ := h
      rcases h1 with h1 | h1
      · exact .inl ⟨p, xs, i, w, rfl, rfl, h1, h2, q⟩
      · exact .inr (.inl ⟨p, xs, i, w, rfl, rfl, h1, h2, q⟩)
    | _ => exact h.elim
  | str z =>
    cases y with
    | int i =>
      obtain ⟨c, h1, h2, q⟩ := h
      exact .inr (.inr ⟨z, i, c, rfl, rfl, h1, h2, q⟩)
    | _ => exact h.elim
  | _ => exact h.elim
/-- x[i:j] of a list, a text, a tuple that is not taken whole -/
def Sli (K : PySem.W.Frag) (H : Hp) (a : Addr) (lo hi : Option Int) (o : HO) : Prop := (∃ xs, SqL K H a xs ∧ o = .lst (cutV xs lo hi)) ∨
  (∃ xs, SqT K H a xs ∧ ¬ (HT.sIx xs.length 0 lo = 0 ∧ HT.sIx xs.length xs.length hi = xs.length) ∧ o = .tup (cutV xs lo hi))
def rSlU (K : PySem.W.Frag) : V → Option Int → Option Int → Hp → VK → Prop := fun x lo hi H Q => match x with
  | .ref a => ∃ o, Sli K H a lo hi o ∧ ∀ p, H p = none → Q (.ref p) (upd H p o)
  | .str z => z.length ≤ sizeLine ∧ Q (.str (cutS z lo hi)) H
  | _ => False
theorem sl_U : SlR X (rSlU X.K) := by
  intro pins s σ H x v vl vu lo hi sl Q I rx hs pl pu h
  cases x with
  | ref a =>
    obtain ⟨o, h, q⟩ := h
    rcases h with ⟨xs, h1, rfl⟩ | ⟨xs, h1, h2, rfl⟩
    · exact sl_list pins s σ H _ v vl vu lo hi sl Q I rx hs pl pu ⟨a, xs, rfl, h1, q⟩
    · exact sl_tup pins s σ H _ v vl vu lo hi sl Q I rx hs pl pu ⟨a, xs, rfl, h1, h2, q⟩
  | str z => exact sl_str pins s σ H _ v vl vu lo hi sl Q I rx hs pl pu ⟨z, rfl, h.1, h.2⟩
  | _ => exact h.elim
theorem sli_l {K : PySem.W.Frag} {H : Hp} {a : Addr} {lo hi : Option Int} {xs : List V} (h : SqL K H a xs) : Sli K H a lo hi (.lst (cutV xs lo hi)) := .inl ⟨xs, h, rfl⟩
def rLenU (K : PySem.W.Frag) : List V → Hp → VK → Prop := fun xs H Q => match xs with
  | [.str z] => z.length ≤ sizeLine ∧ Q (.int z.length) H
  | [.ref p] => ∃ ys, (SqL K H p ys ∨ SqT K H p ys) ∧ Q (.int ys.length) H
  | _ => False
theorem call_lenU : CallR X (.builtin "len") (rLenU X.K) := by
  intro pins s σ H xs us Q I r h
  match xs, h with
  | [.str z], h => exact call_len_str pins s σ H _ us Q I r ⟨z, rfl, h.1, h.2⟩
  | [.ref p], h =>
    obtain ⟨ys, h1, q⟩ := h
    exact call_len_seq pins s σ H _ us Q I r ⟨p, ys, rfl, h1, q⟩
/-- int(n) of an int -/
def rInt1 : List V → Hp → VK → Prop := fun xs H Q => match xs with
  | [.int i] => Q (.int i) H
  | _ => False
theorem call_intU : CallR X (.type "int") rInt1 := by
  intro pins s σ H xs us Q I r h
  match xs, h with
  | [.int i], h => exact call_int1 pins s σ H _ us Q I r (.inl ⟨i, rfl, h⟩)
def rI1 (f : Int → V) : List V → Hp → VK → Prop := fun xs H Q => match xs with
  | [.int i] => Q (f i) H
  | _ => False
def rI2 (f : Int → Int → V) : List V → Hp → VK → Prop := fun xs H Q => match xs with
  | [.int i, .int j] => Q (f i j) H
  | _ => False
theorem call_absU : CallR X (.builtin "abs") (rI1 fun i => .int (if i < 0 then -i else i)) := by
  intro pins s σ H xs us Q I r h
  match xs, h with
  | [.int i], h => exact call_abs pins s σ H _ us Q I r ⟨i, rfl, h⟩
theorem call_maxU (hc : X.calm = true) : CallR X (.builtin "max") (rI2 fun i j => .int (if j > i then j else i)) := by
  intro pins s σ H xs us Q I r h
  match xs, h with
  | [.int i, .int j], h => exact call_max2 hc pins s σ H _ us Q I r ⟨i, j, rfl, h⟩
theorem call_minU (hc : X.calm = true) : CallR X (.builtin "min") (rI2 fun i j => .int (if j < i then j else i)) := by
  intro pins s σ H xs us Q I r h
  match xs, h with
  | [.int i, .int j], h => exact call_min2 hc pins s σ H _ us Q I r ⟨i, j, rfl, h⟩
end

/-! ### what the readings come to: equations for simp -/
section
variable {σ : L2.St} {H : Hp} {Q : VK} {K : PySem.W.Frag} {D' : Ends}
theorem e_var {i : Nat} : tVar i σ H Q = ∃ v, σ[i]? = some (some v) ∧ Q v H := rfl
theorem e_c {v : V} : tC v σ H Q = Q v H := rfl
theorem e_op {r : R2} {ta tb : TE} : tOp r ta tb σ H Q = ta σ H fun x H1 => tb σ H1 fun y H2 => r x y H2 Q := rfl
theorem e_un {r : V → Hp → VK → Prop} {ta : TE} : tUn r ta σ H Q = ta σ H fun x H1 => r x H1 Q := rfl
theorem e_nil {R : List V → Hp → Prop} : tNil σ H R = R [] H := rfl
theorem e_cons {ta : TE} {tr : TA} {R : List V → Hp → Prop} : tCons ta tr σ H R = ta σ H fun x H1 => tr σ H1 fun xs H2 => R (x :: xs) H2 := rfl
theorem e_cb {r : List V → Hp → VK → Prop} {t : TA} : tCB r t σ H Q = t σ H fun vs H1 => r vs H1 Q := rfl
theorem e_call {sp : Sp} {dvs : List V} {E : XK} {t : TA} : tCall sp dvs E t σ H Q = t σ H fun vs H1 => sp (vs ++ dvs) H1 Q E := rfl
theorem e_tup {t : TA} : tTup t σ H Q = t σ H fun xs H1 => xs.length ≤ sizeLine ∧ ∀ p, H1 p = none → Q (.ref p) (upd H1 p (.tup xs)) := rfl
theorem e_lst {t : TA} : tLst t σ H Q = t σ H fun xs H1 => xs.length ≤ sizeLine ∧ ∀ p, H1 p = none → Q (.ref p) (upd H1 p (.lst xs)) := rfl
theorem e_if {t : TT} {ta tb : TE} : tIf t ta tb σ H Q = t σ H fun c H1 => if c = true then ta σ H1 Q else tb σ H1 Q := rfl
theorem e_andV {ta tb : TE} : tAndV ta tb σ H Q = ta σ H fun x H1 => ∃ c, x = .bl c ∧ if c = true then tb σ H1 Q else Q (.bl false) H1 := rfl
theorem e_orV {ta tb : TE} : tOrV ta tb σ H Q = ta σ H fun x H1 => ∃ c, x = .bl c ∧ if c = true then Q (.bl true) H1 else tb σ H1 Q := rfl
theorem e_notV {ta : TE} : tNotV ta σ H Q = ta σ H fun x H1 => ∃ c, x = .bl c ∧ Q (.bl (!c)) H1 := rfl
theorem e_chain {r r' : R2} {ta tb tc : TE} : tChain r r' ta tb tc σ H Q = ta σ H fun x H1 => tb σ H1 fun y H2 => r x y H2 fun z H3 => ∃ k, z = .bl k ∧ (if k = true then tc σ H3 fun w' H4 => r' y w' H4 Q else Q (.bl false) H3) := rfl
theorem e_test {te : TE} {R : Bool → Hp → Prop} : tTest te σ H R = te σ H fun x H1 => ∃ b, x = .bl b ∧ R b H1 := rfl
theorem e_B {te : TE} {R : Bool → Hp → Prop} : tB te σ H R = te σ H fun x H1 => ∃ b, x = .bl b ∧ R b H1 := rfl
theorem e_and {t u : TT} {R : Bool → Hp → Prop} : tAnd t u σ H R = t σ H fun c H1 => if c = true then u σ H1 R else R false H1 := rfl
theorem e_or {t u : TT} {R : Bool → Hp → Prop} : tOr t u σ H R = t σ H fun c H1 => if c = true then R true H1 else u σ H1 R := rfl
theorem e_not {t : TT} {R : Bool → Hp → Prop} : tNot t σ H R = t σ H fun c H1 => R (!c) H1 := rfl
theorem e_asg {te : TE} {g : TG} : tAsg te g D' σ H = te σ H fun v H1 => g v σ H1 D'.nx := rfl
theorem e_name {i : Nat} {v : V} {R : L2.St → Hp → Prop} : gName i v σ H R = R (σ.set i (some v)) H := rfl
theorem e_seq {t u : TS} : tSeq t u D' σ H = t { D' with nx := u D' } σ H := rfl
theorem e_next : tNext D' σ H = D'.nx σ H := rfl
theorem e_ret {te : TE} : tRet te D' σ H = te σ H D'.rt := rfl
theorem e_ifS {t : TT} {u w : TS} : tIfS t u w D' σ H = t σ H fun c H1 => if c = true then u D' σ H1 else w D' σ H1 := rfl
theorem e_drop {te : TE} : tDrop te D' σ H = te σ H fun _ H1 => D'.nx σ H1 := rfl
theorem e_part {te : TE} {R : Option Int → Hp → Prop} : tPart te σ H R = te σ H fun v H1 => ∃ i, v = .int i ∧ R (some i) H1 := rfl
theorem e_noPart {R : Option Int → Hp → Prop} : tNoPart σ H R = R none H := rfl
theorem e_sl {r : V → Option Int → Option Int → Hp → VK → Prop} {te : TE} {tl th : TO} : tSl r te tl th σ H Q = te σ H fun x H1 => tl σ H1 fun lo H2 => th σ H2 fun hi H3 => r x lo hi H3 Q := rfl
theorem e_I0 {f : Int → Int → V} {i j : Int} : rI0 f (.int i) (.int j) H Q = Q (f i j) H := by
  apply propext
  constructor
  · rintro ⟨a, b, h1, h2, q⟩
    cases h1
    cases h2
    exact q
  · exact fun q => ⟨i, j, rfl, rfl, q⟩
theorem e_I {C : Int → Int → Prop} {f : Int → Int → V} {i j : Int} : rI C f (.int i) (.int j) H Q = (C i j ∧ Q (f i j) H) := by
  apply propext
  constructor
  · rintro ⟨a, b, h1, h2, q⟩
    cases h1
    cases h2
    exact q
  · exact fun q => ⟨i, j, rfl, rfl, q⟩
theorem e_exbl {b : Bool} {R : Bool → Prop} : (∃ c, V.bl b = V.bl c ∧ R c) = R b := by
  apply propext
  constructor
  · rintro ⟨c, h, r⟩
    cases h
    exact r
  · exact fun r => ⟨b, rfl, r⟩
theorem e_exint {b : Int} {R : Int → Prop} : (∃ c, V.int b = V.int c ∧ R c) = R b := by
  apply propext
  constructor
  · rintro ⟨c, h, r⟩
    cases h
    exact r
  · exact fun r => ⟨b, rfl, r⟩
theorem e_exstr {b : Str} {R : Str → Prop} : (∃ c, V.str b = V.str c ∧ R c) = R b := by
  apply propext
  constructor
  · rintro ⟨c, h, r⟩
    cases h
    exact r
  · exact fun r => ⟨b, rfl, r⟩
theorem e_exsome {b : V} {R : V → Prop} : (∃ c, (some (some b) : Option (Option V)) = some (some c) ∧ R c) = R b := by
  apply propext
  constructor
  · rintro ⟨c, h, r⟩
    cases h
    exact r
  · exact fun r => ⟨b, rfl, r⟩
theorem e_pair {i j : Nat} {ta : TA} : tPar i j ta D' σ H = ta σ H fun vs H1 => ∃ v w, vs = [v, w] ∧ D'.nx ((σ.set i (some v)).set j (some w)) H1 := rfl
theorem e_expair {v w : V} {R : V → V → Prop} : (∃ a b, [v, w] = [a, b] ∧ R a b) = R v w := by
  apply propext
  constructor
  · rintro ⟨a, b, h, r⟩
    cases h
    exact r
  · exact fun r => ⟨v, w, rfl, r⟩
end
end U
namespace U
open PySem PySem.Spec PyProof.Rows L2
section
variable {σ : L2.St} {H : Hp} {Q : VK} {K : PySem.W.Frag}
theorem e_m1 {r : V → List V → Hp → VK → Prop} {to te : TE} : tM1 r to te σ H Q = to σ H fun x H1 => (∃ a, x = .str a) ∧ te σ H1 fun y H2 => r x [y] H2 Q := rfl
theorem e_m0 {r : V → List V → Hp → VK → Prop} {to : TE} : tM0 r to σ H Q = to σ H fun x H1 => (∃ a, x = .str a) ∧ r x [] H1 Q := rfl
theorem e_bm {T : String} {r : V → List V → Hp → VK → Prop} {to : TE} {t : TA} : tBM K T r to t σ H Q = to σ H fun x H1 => tyV K T x H1 ∧ t σ H1 fun xs H2 => r x xs H2 Q := rfl
theorem e_bm0 {T : String} {r : V → List V → Hp → VK → Prop} {to : TE} : tBM0 K T r to σ H Q = to σ H fun x H1 => tyV K T x H1 ∧ r x [] H1 Q := rfl
theorem e_fld {to : TE} {f : Str} : tFld K to f σ H Q = to σ H fun x H1 => ∃ a C dx fs v, x = .ref a ∧ H1 a = some (.ins C dx fs) ∧ Cls K C ∧ NoAttr K C f ∧ fs.lookup f = some v ∧ Q v H1 := rfl
end
end U
namespace U
open PySem PySem.Spec PyProof.Rows L2
section
variable {X : Cx} {x : Str} {pos : Pos} {a : Addr}
/-- a built-in class, a class or def of the module, as a value -/
theorem pe_bt (n : String) (hg : Gl X x) (hm : X.mg x = none) (hv : bootBuiltins x = some (.type n)) (hn : x ≠ "__name__" := by decide) (hd : (x == ("__debug__" : Str)) = false := by decide) : PE X (.Name x pos) (tC (.ty n)) :=
  pe_bltn hg hm hv rfl hn hd
theorem pe_gref (hg : Gl X x) (hm : X.mg x = some (.ref a)) (hd : (x == ("__debug__" : Str)) = false := by decide) : PE X (.Name x pos) (tC (.ref a)) := pe_glob (v := .ref a) hg hm rfl hd
end
end U

/-! U5: list(text); keywords alone in another order. -/
namespace U
open PySem PySem.Spec PyProof.Rows L2

section
variable {prog : Program} {w : World} {A : Around} {E : Value → Shared → Prop} {s : Shared}
theorem hint_str {x : Str} {t : Tok} {Q : Bool → Shared → Prop} (q : Q false s) : wpAny (model prog w) A (Builtin.List.listLengthHint (.str x t)) Q E s := by
  unfold Builtin.List.listLengthHint
  have ty : s.TypeIs (.str x t) "str" := rfl
  refine wpAny_bind (wpAny_specialOf ty PySem.F.str_len ?_)
  wp_delta
  refine wpAny_bind (wpAny_isInstance (v := .str x t) (T := "str") (b := true) rfl (by rw [isSubtype_type]; kernel_rfl) ?_)
  show wpAny _ A (typeOf (Value.str x t) >>= _) _ _ _
  refine wpAny_bind (wpAny_typeOf ty ?_)
  exact wpAny_pure q
/-- the signs of a text are put behind an empty list at S -/
theorem ext_str {R : Result → Shared → Prop} (hh : A.handled = none) (x : Str) (t : Tok) (S : Addr) (res : Value) (c0 : Nat) (hS : s.heap.get? S = some { cls := .type "list", data := .seq #[] c0 }) (hn : x.cps.size ≤ sizeLine)
    (hR : ∀ h' tk acc c', (∀ b o, b ≠ S → s.heap.get? b = some o → h'.get? b = some o) → h'.get? S = some { cls := .type "list", dict := none, data := .seq acc c', slots := #[] } → ItemsOf (SignAt x) acc x.cps.size → R (.ok (.ret res)) { s with heap := h', toks := tk }) :
    wpAny (model prog w) A.in1 (Builtin.List.listExtendWith (.ref S) (.str x t) res)
      (fun fin s1 => match fin with | .done f => R (.ok f) s1 | .again c1 => c1.quiet = true ∧ codeAny (model prog w) A c1 R s1) (fun e s1 => R (.error e) s1) s := by
  have hlt := Heap.lt_size hS
  unfold Builtin.List.listExtendWith
  have ty : s.TypeIs (.str x t) "str" := rfl
  refine wpAny_bind (wpAny_typeOf ty ?_)
  have n1 : Builtin.List.listSameRef (.ref S) (.str x t) = false := rfl
  have n2 : (Value.type "str" == Value.type "list") = false := by decide
  have n3 : (Value.type "str" == Value.type "tuple") = false := by decide
  simp only [n1, n2, n3, Bool.or_false, Bool.false_eq_true, if_false]
  refine wpAny_bind (wpAny_pyIter_str fun o St W hst => ?_)
  refine wpAny_bind (wpAny_holding (hint_str ?_))
  rw [if_neg (by decide)]
  have hSf : S ∉ [s.heap.objs.size] := by
    intro hm
    exact Nat.ne_of_lt hlt (List.mem_singleton.mp hm)
  have hS1 := Heap.get?_push_of_some o hS
  refine wpAny_pure ⟨plainId_quiet PySem.F.plain_extend_loop _, ?_⟩
  refine codeAny_extend_loopS (W A.in1 hh).toS hn S hSf res x.cps.size 0 _ #[] c0 rfl (Nat.zero_le _) hst hS1 (ItemsOf.nil _) ?_
  intro s1 acc c' hm hS' hacc
  rw [Moved.eq_with hm]
  refine hR s1.heap s1.toks acc c' ?_ hS' hacc
  intro b ob hb e
  refine hm.heap b ob ?_ (Heap.get?_push_of_some _ e)
  intro hmem
  rcases List.mem_cons.mp hmem with z | hmem
  · exact hb z
  · exact Nat.ne_of_lt (Heap.lt_size e) (List.mem_singleton.mp hmem)
theorem init_str {R : Result → Shared → Prop} (hh : A.handled = none) (x : Str) (t : Tok) (S : Addr) (hS : s.heap.get? S = some { cls := .type "list", data := .seq #[] }) (hn : x.cps.size ≤ sizeLine)
    (hR : ∀ h' tk acc c', (∀ b o, b ≠ S → s.heap.get? b = some o → h'.get? b = some o) → h'.get? S = some { cls := .type "list", dict := none, data := .seq acc c', slots := #[] } → ItemsOf (SignAt x) acc x.cps.size → R (.ok (.ret .none)) { s with heap := h', toks := tk }) :
    wpAny (model prog w) A.in1 (Builtin.«list.__init__» ⟨[.ref S, .str x t], []⟩)
      (fun fin s1 => match fin with | .done f => R (.ok f) s1 | .again c1 => c1.quiet = true ∧ codeAny (model prog w) A c1 R s1) (fun e s1 => R (.error e) s1) s := by
  show wpAny _ _ (do
    let old ← Builtin.List.listItems (.ref S)
    Builtin.List.listUpdate (.ref S) (fun _ => #[])
    letGo old.toList.reverse
    Builtin.List.listExtendWith (.ref S) (.str x t) .none) _ _ s
  refine wpAny_bind ?_
  unfold Builtin.List.listItems
  refine wpAny_bind (wpAny_seqItems hS rfl (wpAny_pure ?_))
  show wpAny _ _ (do
    updateSeq S (fun _ => #[])
    letGo (#[] : Array Value).toList.reverse
    Builtin.List.listExtendWith (.ref S) (.str x t) .none) _ _ s
  refine wpAny_bind (wpAny_updateSeq hS rfl ?_)
  have hS2 := Heap.get?_update_self (Obj.mapSeq (fun _ => (#[] : Array Value))) hS rfl
  refine wpAny_bind (wpAny_letGo ?_)
  refine ext_str hh x t S .none _ hS2 hn ?_
  intro h' tk acc c' hk hS' hacc
  refine hR h' tk acc c' (fun b o hb e => hk b o hb ?_) hS' hacc
  exact (Heap.get?_update_other _ _ (Ne.symm hb)).trans e
theorem list_str {Q : Value → Shared → Prop} (hh : A.handled = none) (x : Str) (t : Tok) (hn : x.cps.size ≤ sizeLine)
    (hQ : ∀ h' tk acc c', (∀ b o, s.heap.get? b = some o → h'.get? b = some o) → h'.get? s.heap.objs.size = some { cls := .type "list", dict := none, data := .seq acc c', slots := #[] } → ItemsOf (SignAt x) acc x.cps.size → Q (.ref s.heap.objs.size) { s with heap := h', toks := tk }) :
    wpAny (model prog w) A (call (.type "list") [.str x t]) Q E s := by
  refine callType_codes (Q₁ := fun obj s1 => obj = .ref s.heap.objs.size ∧ s1 = { s with heap := s.heap.push { cls := .type "list", data := .seq #[] } }) PySem.F.called_list (PySem.F.typeCall_list_1 _) PySem.F.entry_list_init (code_list_new _ ⟨rfl, rfl⟩) ?_
  rintro obj s1 ⟨rfl, rfl⟩
  have hS : (s.heap.push { cls := .type "list", data := .seq #[] }).get? s.heap.objs.size = some { cls := .type "list", data := .seq #[] } := Heap.get?_push_size _ rfl
  refine ⟨⟨_, hS, rfl⟩, PySem.F.args_list_init_2 _ _, init_str (A := A.in1) hh x t _ hS hn ?_⟩
  intro h' tk acc c' hk hS' hacc
  refine ⟨rfl, ?_⟩
  refine hQ h' tk acc c' (fun b o e => hk b o (Nat.ne_of_lt (Heap.lt_size e)) (Heap.get?_push_of_some _ e)) hS' hacc
end

/-- the signs of a text, each a text -/
def signsV (z : Str) : List V := z.cps.toList.map fun c => V.str ⟨#[c]⟩
def rListU (K : PySem.W.Frag) : List V → Hp → VK → Prop := fun xs H Q => match xs with
  | [.ref p] => ∃ ys, (SqL K H p ys ∨ SqT K H p ys) ∧ ∀ l, H l = none → Q (.ref l) (upd H l (.lst ys))
  | [.str z] => z.length ≤ sizeLine ∧ ∀ l, H l = none → Q (.ref l) (upd H l (.lst (signsV z)))
  | _ => False
theorem call_listU {X : Cx} (hc : X.calm = true := by rfl) : CallR X (.type "list") (rListU X.K) := by
  intro pins s σ H xs us Q I r h
  match xs, h with
  | [.ref p], h =>
    obtain ⟨ys, h1, q⟩ := h
    exact call_list_of pins s σ H _ us Q I r ⟨p, ys, rfl, h1, q⟩
  | [.str z], h =>
    obtain ⟨hz, q⟩ := h
    obtain ⟨u, rfl, t, rfl⟩ := vals1 r
    refine list_str (I.ok.hd hc) z t hz ?_
    intro h' tk acc c' hk hS hacc
    have hnew : H s.heap.objs.size = none := I.hok.fresh (Nat.le_refl _)
    have ob : ObjOk X.prog X.w (upd H s.heap.objs.size (.lst (signsV z))) h' s.heap.objs.size (.lst (signsV z)) := by
      refine ⟨?_, acc.toList, c', ?_, by rw [Array.toArray_toList]; exact hS⟩
      · unfold signsV
        rw [List.length_map]
        exact hz
      · refine vals_of_at ?_ ?_
        · unfold signsV
          rw [List.length_map, Array.length_toList, Array.length_toList, hacc.1]
        · intro j v u h1 h2
          rw [Array.getElem?_toList] at h2
          obtain ⟨c, tk2, hc2, rfl⟩ := hacc.2 j u h2
          unfold signsV at h1
          rw [List.getElem?_map, Array.getElem?_toList, hc2] at h1
          cases h1
          exact ⟨_, rfl⟩
    exact ⟨.ref s.heap.objs.size, _, I.laid hk (Nat.le_refl _) ob, rfl, q _ hnew⟩

/-! ### keywords alone, in another order -/
section
variable {K : PySem.W.Frag} {x qual : Str} {st : Stmt} {f : Addr} {fd : FuncData} {ps ks : List Str} {n : Nat} {g : List Value → List Value} {gV : List V → List V}
theorem kbn_of (F : L2.Fun K x qual st f fd) (rel : ∀ {zs : List V} {ws : List Value}, Vals zs ws → Vals (gV zs) (g ws))
    (h : ∀ (kV doc pm : Value) (an : Option Addr) (cdv ct : Value) (us ws : List Value), us.length = n → ws.length = ks.length →
      bindArgs (PySem.W.fnOf x qual (L2.defArgs st) (L2.defBody st) (L2.defScope st) .none kV doc pm an cdv ct) ⟨us, ks.zip ws⟩ = pure (ps.zip (us ++ g ws))) :
    KBn K fd ps n ks (fun us ws => us ++ g ws) (fun vs zs => vs ++ gV zs) := by
  obtain ⟨oc, od, kV, doc, pm, an, cdv, ct, osl, rfl, lk, hcd⟩ := F.ex
  exact ⟨fun s us ws _ h1 h2 => .of_eq (h kV doc pm an cdv ct us ws h1 h2), fun r rz => r.append (rel rz)⟩
end
def pk1_0 {α : Type} : List α → List α
  | [a, b] => [b, a]
  | l => l
def pk3_2_1_0 {α : Type} : List α → List α
  | [a, b, c, d] => [d, c, b, a]
  | l => l
def pk2_1_0 {α : Type} : List α → List α
  | [a, b, c] => [c, b, a]
  | l => l
def pk0 {α : Type} : List α → List α := fun l => l
def pk0_1 {α : Type} : List α → List α := fun l => l
theorem rel0 {zs : List V} {ws : List Value} (r : Vals zs ws) : Vals (pk0 zs) (pk0 ws) := r
theorem rel0_1 {zs : List V} {ws : List Value} (r : Vals zs ws) : Vals (pk0_1 zs) (pk0_1 ws) := r
theorem rel1_0 {zs : List V} {ws : List Value} (r : Vals zs ws) : Vals (pk1_0 zs) (pk1_0 ws) := by
  match zs, ws, r with
  | [], _, .nil => exact .nil
  | [_], _, .cons a .nil => exact .cons a .nil
  | [_, _], _, .cons a (.cons b .nil) => exact .cons b (.cons a .nil)
  | _ :: _ :: _ :: _, _, .cons a (.cons b (.cons c t)) => exact .cons a (.cons b (.cons c t))
theorem rel2_1_0 {zs : List V} {ws : List Value} (r : Vals zs ws) : Vals (pk2_1_0 zs) (pk2_1_0 ws) := by
  match zs, ws, r with
  | [], _, .nil => exact .nil
  | [_], _, .cons a .nil => exact .cons a .nil
  | [_, _], _, .cons a (.cons b .nil) => exact .cons a (.cons b .nil)
  | [_, _, _], _, .cons a (.cons b (.cons c .nil)) => exact .cons c (.cons b (.cons a .nil))
  | _ :: _ :: _ :: _ :: _, _, .cons a (.cons b (.cons c (.cons d t))) => exact .cons a (.cons b (.cons c (.cons d t)))
theorem rel3_2_1_0 {zs : List V} {ws : List Value} (r : Vals zs ws) : Vals (pk3_2_1_0 zs) (pk3_2_1_0 ws) := by
  match zs, ws, r with
  | [], _, .nil => exact .nil
  | [_], _, .cons a .nil => exact .cons a .nil
  | [_, _], _, .cons a (.cons b .nil) => exact .cons a (.cons b .nil)
  | [_, _, _], _, .cons a (.cons b (.cons c .nil)) => exact .cons a (.cons b (.cons c .nil))
  | [_, _, _, _], _, .cons a (.cons b (.cons c (.cons d .nil))) => exact .cons d (.cons c (.cons b (.cons a .nil)))
  | _ :: _ :: _ :: _ :: _ :: _, _, .cons a (.cons b (.cons c (.cons d (.cons e t)))) => exact .cons a (.cons b (.cons c (.cons d (.cons e t))))
end U

/-! U6: comprehensions and loops. -/
namespace U
open PySem PySem.Spec PyProof.Rows L2

/-- J walks n items, wherever what stood in H0 (but S) still stands; it: the item, the heap ahead of the turn and behind the draw -/
structure Src (S : Addr → Prop) (J : It) (H0 : Hp) (n : Nat) (it : Nat → V → Hp → Hp → Prop) : Prop where
  stop : ∀ H', Ext S H0 H' → J.stop n H'
  go : ∀ i H', i < n → Ext S H0 H' → J.go i H'
  yld : ∀ i H' x H2, i < n → Ext S H0 H' → J.yld i H' x H2 → it i x H' H2
section
variable {K : PySem.W.Frag} {S : Addr → Prop} {H0 : Hp} {a : Addr} {xs : List V}
theorem src_list (h : H0 a = some (.lst xs)) (n : ¬ S a) : Src S (Itl K a) H0 xs.length (fun i x H' H2 => H2 = H' ∧ xs[i]? = some x) := by
  refine ⟨fun H' e => ⟨xs, SqL.of (e _ _ n h), Nat.le_refl _⟩, fun i H' hi e => ⟨xs, xs[i], SqL.of (e _ _ n h), by simp [hi]⟩, fun i H' x H2 hi e y => ?_⟩
  obtain ⟨q, y⟩ := y
  exact ⟨q, y xs (SqL.of (e _ _ n h))⟩
theorem src_listK (h : ∀ H : Hp, SqL K H a xs) : Src S (Itl K a) H0 xs.length (fun i x H' H2 => H2 = H' ∧ xs[i]? = some x) := by
  refine ⟨fun H' e => ⟨xs, h H', Nat.le_refl _⟩, fun i H' hi e => ⟨xs, xs[i], h H', by simp [hi]⟩, fun i H' x H2 hi e y => ?_⟩
  obtain ⟨q, y⟩ := y
  exact ⟨q, y xs (h H')⟩
theorem src_tup (h : H0 a = some (.tup xs)) (n : ¬ S a) : Src S (Itt K a) H0 xs.length (fun i x H' H2 => H2 = H' ∧ xs[i]? = some x) := by
  refine ⟨fun H' e => ⟨xs, SqT.of (e _ _ n h), Nat.le_refl _⟩, fun i H' hi e => ⟨xs, xs[i], SqT.of (e _ _ n h), by simp [hi]⟩, fun i H' x H2 hi e y => ?_⟩
  obtain ⟨q, y⟩ := y
  exact ⟨q, y xs (SqT.of (e _ _ n h))⟩
theorem src_tupK (h : ∀ H : Hp, SqT K H a xs) : Src S (Itt K a) H0 xs.length (fun i x H' H2 => H2 = H' ∧ xs[i]? = some x) := by
  refine ⟨fun H' e => ⟨xs, h H', Nat.le_refl _⟩, fun i H' hi e => ⟨xs, xs[i], h H', by simp [hi]⟩, fun i H' x H2 hi e y => ?_⟩
  obtain ⟨q, y⟩ := y
  exact ⟨q, y xs (h H')⟩
theorem src_rng (lo : Int) (n : Nat) : Src S (Itr lo n) H0 n (fun i x H' H2 => H2 = H' ∧ x = .int (lo + (i : Nat))) :=
  ⟨fun _ _ => Nat.le_refl _, fun _ _ hi _ => hi, fun _ _ _ _ _ _ y => y⟩
theorem src_str (z : Str) : Src S (Its z) H0 z.cps.size (fun i x H' H2 => H2 = H' ∧ ∃ c, z.cps[i]? = some c ∧ x = .str ⟨#[c]⟩) :=
  ⟨fun _ _ => Nat.le_refl _, fun _ _ hi _ => hi, fun _ _ _ _ _ _ y => y⟩
end

/-- a comprehension: I says which data may have been gathered behind i turns -/
theorem lc_core {J : It} {H1 : Hp} {n : Nat} {it : Nat → V → Hp → Hp → Prop} {g : TG} {tt : TT} {te : TE} {vs : List Nat} {σ : L2.St} {Q : VK} {D0 : Addr} (hD : H1 D0 = none) (src : Src (fun a => a = D0) J H1 n it) (hn : n ≤ 16777216)
    (I : Nat → List D → Prop) (i0 : I 0 [])
    (step : ∀ i ds H', i < n → I i ds → Ext (fun a => a = D0) H1 H' → ∀ x H2, it i x H' H2 → ∀ (Ky : VK) (Kn : Hp → Prop), (∀ y H5 d, Same H' H5 → Dt N0 H5 y d → D.flat d = true → I (i + 1) (ds ++ [d]) → Ky y H5) → (∀ H5, Same H' H5 → I (i + 1) ds → Kn H5) →
      g x (wipe σ vs) H2 fun σ2 H3 => wipe σ2 vs = wipe σ vs ∧ tt σ2 H3 fun b H4 => if b = true then te σ2 H4 Ky else Kn H4)
    (fin : ∀ H' ds, I n ds → ds.length ≤ n → Same H1 H' → Dt N0 H' (.ref D0) (.lst ds) → Q (.ref D0) H') :
    ∃ W : Nat → Nat → Hp → Prop, (∃ m, W 0 m (upd H1 D0 (.lst []))) ∧ ∀ i m H, W i m H →
      (J.stop i H ∧ Q (.ref D0) H) ∨ (J.go i H ∧ ∃ Nx : Hp → Prop, (∀ H', Nx H' → ∃ m', m' < m ∧ W (i + 1) m' H') ∧ ∀ x H', J.yld i H x H' → g x (wipe σ vs) H' fun σ2 H2 => wipe σ2 vs = wipe σ vs ∧ tt σ2 H2 fun b H3 =>
        if b = true then te σ2 H3 fun y H4 => ∃ acc, H4 D0 = some (.lst acc) ∧ acc.length < sizeLine ∧ Nx (upd H4 D0 (.lst (acc ++ [y]))) else Nx H3) := by
  refine ⟨fun i m H => m = n - i ∧ i ≤ n ∧ Ext (fun a => a = D0) H1 H ∧ ∃ ws ds, H D0 = some (.lst ws) ∧ DtA (fun a => a = D0) H ws ds ∧ I i ds ∧ ds.length ≤ i, ⟨n, rfl, Nat.zero_le _, ?_, [], [], upd_same, .nil, i0, Nat.le_refl _⟩, ?_⟩
  · exact Ext.mut (Ext.refl _) rfl
  · rintro i m H ⟨rfl, hi, hE, ws, ds, hL, hA, hI, hlen⟩
    by_cases hlt : i < n
    · refine .inr ⟨src.go i H hlt hE, fun H' => ∃ ws ds, Ext (fun a => a = D0) H1 H' ∧ H' D0 = some (.lst ws) ∧ DtA (fun a => a = D0) H' ws ds ∧ I (i + 1) ds ∧ ds.length ≤ i + 1, ?_, ?_⟩
      · rintro H' ⟨ws', ds', hE', hL', hA', hI', hl'⟩
        exact ⟨n - (i + 1), by omega, rfl, hlt, hE', ws', ds', hL', hA', hI', hl'⟩
      · intro x H2 hy
        refine step i ds H hlt hI hE x H2 (src.yld i H x H2 hlt hE hy) _ _ ?_ ?_
        · intro y H5 d hS hd0 hfl hI'
          have hd := Dt.nl (hS _ _ hL) d hfl hd0
          refine ⟨ws, hS _ _ hL, ?_, ws ++ [y], ds ++ [d], ?_, upd_same, ?_, hI', by rw [List.length_append, List.length_singleton]; omega⟩
          · rw [hA.length]
            exact Nat.lt_of_le_of_lt hlen (Nat.lt_of_lt_of_le hlt (by rw [sizeLine_eq]; exact hn))
          · exact Ext.mut (hE.trans (Ext.of hS)) rfl
          · have z : DtA (fun a => a = D0) H5 (ws ++ [y]) (ds ++ [d]) := (hA.sm hS).snoc hd
            exact z.go (Ext.mut (Ext.refl _) rfl)
        · intro H5 hS hI'
          exact ⟨ws, ds, hE.trans (Ext.of hS), hS _ _ hL, hA.sm hS, hI', by omega⟩
    · have e : i = n := by omega
      subst e
      refine .inl ⟨src.stop H hE, fin H ds hI hlen (hE.same hD) ?_⟩
      exact .lst (fun z => z) hL hA.n0
/-- the step of a comprehension -/
abbrev LcStep (H1 : Hp) (D0 : Addr) (n : Nat) (it : Nat → V → Hp → Hp → Prop) (I : Nat → List D → Prop) (g : TG) (tt : TT) (te : TE) (vs : List Nat) (σ : L2.St) : Prop :=
  ∀ i ds H', i < n → I i ds → Ext (fun a => a = D0) H1 H' → ∀ x H2, it i x H' H2 → ∀ (Ky : VK) (Kn : Hp → Prop), (∀ y H5 d, Same H' H5 → Dt N0 H5 y d → D.flat d = true → I (i + 1) (ds ++ [d]) → Ky y H5) → (∀ H5, Same H' H5 → I (i + 1) ds → Kn H5) →
      g x (wipe σ vs) H2 fun σ2 H3 => wipe σ2 vs = wipe σ vs ∧ tt σ2 H3 fun b H4 => if b = true then te σ2 H4 Ky else Kn H4
abbrev LcFin (H1 : Hp) (D0 : Addr) (n : Nat) (I : Nat → List D → Prop) (Q : VK) : Prop := ∀ H' ds, I n ds → ds.length ≤ n → Same H1 H' → Dt N0 H' (.ref D0) (.lst ds) → Q (.ref D0) H'
/-- a comprehension that walks J -/
def LcOn (J : It) (g : TG) (tt : TT) (te : TE) (vs : List Nat) (σ : L2.St) (Q : VK) (H1 : Hp) : Prop := ∀ D, H1 D = none → ∃ W : Nat → Nat → Hp → Prop, (∃ m, W 0 m (upd H1 D (.lst []))) ∧ ∀ i m H, W i m H →
  (J.stop i H ∧ Q (.ref D) H) ∨ (J.go i H ∧ ∃ Nx : Hp → Prop, (∀ H', Nx H' → ∃ m', m' < m ∧ W (i + 1) m' H') ∧ ∀ x H', J.yld i H x H' → g x (wipe σ vs) H' fun σ2 H2 => wipe σ2 vs = wipe σ vs ∧ tt σ2 H2 fun b H3 =>
    if b = true then te σ2 H3 fun y H4 => ∃ acc, H4 D = some (.lst acc) ∧ acc.length < sizeLine ∧ Nx (upd H4 D (.lst (acc ++ [y]))) else Nx H3)
def rLcL (K : PySem.W.Frag) (g : TG) (tt : TT) (te : TE) (vs : List Nat) (σ : L2.St) (Q : VK) (x : V) (H1 : Hp) : Prop := ∃ a, x = .ref a ∧ (∃ xs, SqL K H1 a xs) ∧ LcOn (Itl K a) g tt te vs σ Q H1
def rLcT (K : PySem.W.Frag) (g : TG) (tt : TT) (te : TE) (vs : List Nat) (σ : L2.St) (Q : VK) (x : V) (H1 : Hp) : Prop := ∃ a, x = .ref a ∧ (∃ xs, SqT K H1 a xs) ∧ LcOn (Itt K a) g tt te vs σ Q H1
def rLcS (g : TG) (tt : TT) (te : TE) (vs : List Nat) (σ : L2.St) (Q : VK) (x : V) (H1 : Hp) : Prop := ∃ z, x = .str z ∧ LcOn (Its z) g tt te vs σ Q H1
def rLcR (g : TG) (tt : TT) (te : TE) (vs : List Nat) (σ : L2.St) (Q : VK) (x : List V) (H1 : Hp) : Prop := ∃ j : Int, x = [.int j] ∧ -(2 ^ 62) ≤ j ∧ j < 2 ^ 62 ∧ LcOn (Itr 0 j.toNat) g tt te vs σ Q H1
def rLcR2 (g : TG) (tt : TT) (te : TE) (vs : List Nat) (σ : L2.St) (Q : VK) (x : List V) (H1 : Hp) : Prop := ∃ i j : Int, x = [.int i, .int j] ∧ (-(2 ^ 62) ≤ i ∧ i < 2 ^ 62 ∧ -(2 ^ 62) ≤ j ∧ j < 2 ^ 62) ∧ LcOn (Itr i (j - i).toNat) g tt te vs σ Q H1
section
variable {K : PySem.W.Frag} {H H1 : Hp} {a : Addr} {xs : List V} {g : TG} {tt : TT} {te tl : TE} {vs : List Nat} {σ : L2.St} {Q : VK} {ta : TA}
theorem e_lcL : tLc (iList K tl) g tt te vs σ H Q = tl σ H fun x H1 => rLcL K g tt te vs σ Q x H1 := rfl
theorem e_lcT : tLc (iTup K tl) g tt te vs σ H Q = tl σ H fun x H1 => rLcT K g tt te vs σ Q x H1 := rfl
theorem e_lcS : tLc (iStr tl) g tt te vs σ H Q = tl σ H fun x H1 => rLcS g tt te vs σ Q x H1 := rfl
theorem e_lcR : tLc (iRng1 ta) g tt te vs σ H Q = ta σ H fun x H1 => rLcR g tt te vs σ Q x H1 := rfl
theorem e_lcR2 : tLc (iRng2 ta) g tt te vs σ H Q = ta σ H fun x H1 => rLcR2 g tt te vs σ Q x H1 := rfl
theorem ne_fresh {D0 : Addr} {o : HO} (h : H1 a = some o) (hD : H1 D0 = none) : ¬ a = D0 := ne_of_none h hD
theorem lcL (h : H1 a = some (.lst xs)) (hn : xs.length ≤ 16777216) (I : Nat → List D → Prop) (i0 : I 0 [])
    (step : ∀ D0, H1 D0 = none → LcStep H1 D0 xs.length (fun i x H' H2 => H2 = H' ∧ xs[i]? = some x) I g tt te vs σ) (fin : ∀ D0, H1 D0 = none → LcFin H1 D0 xs.length I Q) : rLcL K g tt te vs σ Q (.ref a) H1 :=
  ⟨a, rfl, ⟨xs, SqL.of h⟩, fun D0 hD => lc_core hD (src_list h (ne_fresh h hD)) hn I i0 (step D0 hD) (fin D0 hD)⟩
theorem lcLK (h : ∀ H : Hp, SqL K H a xs) (hn : xs.length ≤ 16777216) (I : Nat → List D → Prop) (i0 : I 0 [])
    (step : ∀ D0, H1 D0 = none → LcStep H1 D0 xs.length (fun i x H' H2 => H2 = H' ∧ xs[i]? = some x) I g tt te vs σ) (fin : ∀ D0, H1 D0 = none → LcFin H1 D0 xs.length I Q) : rLcL K g tt te vs σ Q (.ref a) H1 :=
  ⟨a, rfl, ⟨xs, h _⟩, fun D0 hD => lc_core hD (src_listK h) hn I i0 (step D0 hD) (fin D0 hD)⟩
theorem lcT (h : H1 a = some (.tup xs)) (hn : xs.length ≤ 16777216) (I : Nat → List D → Prop) (i0 : I 0 [])
    (step : ∀ D0, H1 D0 = none → LcStep H1 D0 xs.length (fun i x H' H2 => H2 = H' ∧ xs[i]? = some x) I g tt te vs σ) (fin : ∀ D0, H1 D0 = none → LcFin H1 D0 xs.length I Q) : rLcT K g tt te vs σ Q (.ref a) H1 :=
  ⟨a, rfl, ⟨xs, SqT.of h⟩, fun D0 hD => lc_core hD (src_tup h (ne_fresh h hD)) hn I i0 (step D0 hD) (fin D0 hD)⟩
theorem lcS {z : Str} (hn : z.cps.size ≤ 16777216) (I : Nat → List D → Prop) (i0 : I 0 [])
    (step : ∀ D0, H1 D0 = none → LcStep H1 D0 z.cps.size (fun i x H' H2 => H2 = H' ∧ ∃ c, z.cps[i]? = some c ∧ x = .str ⟨#[c]⟩) I g tt te vs σ) (fin : ∀ D0, H1 D0 = none → LcFin H1 D0 z.cps.size I Q) : rLcS g tt te vs σ Q (.str z) H1 :=
  ⟨z, rfl, fun D0 hD => lc_core hD (src_str z) hn I i0 (step D0 hD) (fin D0 hD)⟩
theorem lcR {n : Int} (hn : n ≤ 16777216) (hn0 : -16777216 ≤ n) (I : Nat → List D → Prop) (i0 : I 0 [])
    (step : ∀ D0, H1 D0 = none → LcStep H1 D0 n.toNat (fun i x H' H2 => H2 = H' ∧ x = .int (i : Nat)) I g tt te vs σ) (fin : ∀ D0, H1 D0 = none → LcFin H1 D0 n.toNat I Q) : rLcR g tt te vs σ Q [.int n] H1 := by
  refine ⟨n, rfl, by omega, by omega, fun D0 hD => lc_core hD (src_rng 0 n.toNat) (by omega) I i0 ?_ (fin D0 hD)⟩
  rintro i ds H' hi hI hE x H2 ⟨e1, e2⟩
  exact step D0 hD i ds H' hi hI hE x H2 ⟨e1, by rw [e2, Int.zero_add]⟩
theorem lcR2 {lo n : Int} (hn : n ≤ 16777216) (hn0 : -16777216 ≤ n) (hl0 : 0 ≤ lo) (hl1 : lo ≤ 16777216) (I : Nat → List D → Prop) (i0 : I 0 [])
    (step : ∀ D0, H1 D0 = none → LcStep H1 D0 (n - lo).toNat (fun i x H' H2 => H2 = H' ∧ x = .int (lo + (i : Nat))) I g tt te vs σ) (fin : ∀ D0, H1 D0 = none → LcFin H1 D0 (n - lo).toNat I Q) : rLcR2 g tt te vs σ Q [.int lo, .int n] H1 :=
  ⟨lo, n, rfl, ⟨by omega, by omega, by omega, by omega⟩, fun D0 hD => lc_core hD (src_rng lo _) (by omega) I i0 (step D0 hD) (fin D0 hD)⟩
end

/-! ### for -/
theorem for_core {J : It} {H1 : Hp} {n : Nat} {it : Nat → V → Hp → Hp → Prop} {S : Addr → Prop} {g : TG} {tb : TS} {σ : L2.St} {D0 : Ends} (src : Src S J H1 n it)
    (I : Nat → L2.St → Hp → Prop) (i0 : I 0 σ H1) (stay : ∀ i σ' H', I i σ' H' → Ext S H1 H')
    (step : ∀ i σ' H', i < n → I i σ' H' → ∀ x H2, it i x H' H2 → g x σ' H2 fun σ2 H3 => tb { D0 with nx := I (i + 1), ct := I (i + 1), bk := D0.nx } σ2 H3)
    (fin : ∀ σ' H', I n σ' H' → D0.nx σ' H') :
    ∃ W : Nat → Nat → L2.St → Hp → Prop, (∃ m, W 0 m σ H1) ∧ ∀ i m σ H, W i m σ H →
      (J.stop i H ∧ D0.nx σ H) ∨ (J.go i H ∧ ∃ N : L2.St → Hp → Prop, (∀ σ' H', N σ' H' → ∃ m', m' < m ∧ W (i + 1) m' σ' H') ∧ ∀ x H', J.yld i H x H' → g x σ H' fun σ2 H2 => tb { D0 with nx := N, ct := N, bk := D0.nx } σ2 H2) := by
  refine ⟨fun i m σ' H' => m = n - i ∧ i ≤ n ∧ I i σ' H', ⟨n, rfl, Nat.zero_le _, i0⟩, ?_⟩
  rintro i m σ' H' ⟨rfl, hi, hI⟩
  by_cases hlt : i < n
  · refine .inr ⟨src.go i H' hlt (stay _ _ _ hI), I (i + 1), fun σ2 H2 q => ⟨n - (i + 1), by omega, rfl, hlt, q⟩, fun x H2 y => ?_⟩
    exact step i σ' H' hlt hI x H2 (src.yld i H' x H2 hlt (stay _ _ _ hI) y)
  · have e : i = n := by omega
    subst e
    exact .inl ⟨src.stop H' (stay _ _ _ hI), fin σ' H' hI⟩
/-- a loop that walks J -/
def ForOn (J : It) (g : TG) (tb : TS) (D0 : Ends) (σ : L2.St) (H1 : Hp) : Prop := ∃ W : Nat → Nat → L2.St → Hp → Prop, (∃ m, W 0 m σ H1) ∧ ∀ i m σ H, W i m σ H →
  (J.stop i H ∧ D0.nx σ H) ∨ (J.go i H ∧ ∃ N : L2.St → Hp → Prop, (∀ σ' H', N σ' H' → ∃ m', m' < m ∧ W (i + 1) m' σ' H') ∧ ∀ x H', J.yld i H x H' → g x σ H' fun σ2 H2 => tb { D0 with nx := N, ct := N, bk := D0.nx } σ2 H2)
def rForL (K : PySem.W.Frag) (g : TG) (tb : TS) (D0 : Ends) (σ : L2.St) (x : V) (H1 : Hp) : Prop := ∃ a, x = .ref a ∧ (∃ xs, SqL K H1 a xs) ∧ ForOn (Itl K a) g tb D0 σ H1
def rForT (K : PySem.W.Frag) (g : TG) (tb : TS) (D0 : Ends) (σ : L2.St) (x : V) (H1 : Hp) : Prop := ∃ a, x = .ref a ∧ (∃ xs, SqT K H1 a xs) ∧ ForOn (Itt K a) g tb D0 σ H1
def rForR (g : TG) (tb : TS) (D0 : Ends) (σ : L2.St) (x : List V) (H1 : Hp) : Prop := ∃ j : Int, x = [.int j] ∧ -(2 ^ 62) ≤ j ∧ j < 2 ^ 62 ∧ ForOn (Itr 0 j.toNat) g tb D0 σ H1
def rForR2 (g : TG) (tb : TS) (D0 : Ends) (σ : L2.St) (x : List V) (H1 : Hp) : Prop := ∃ i j : Int, x = [.int i, .int j] ∧ (-(2 ^ 62) ≤ i ∧ i < 2 ^ 62 ∧ -(2 ^ 62) ≤ j ∧ j < 2 ^ 62) ∧ ForOn (Itr i (j - i).toNat) g tb D0 σ H1
section
variable {K : PySem.W.Frag} {S : Addr → Prop} {H H1 : Hp} {a : Addr} {xs : List V} {g : TG} {tb : TS} {tl : TE} {σ : L2.St} {D0 : Ends} {ta : TA}
theorem e_forL : tFor (iList K tl) g tb D0 σ H = tl σ H fun x H1 => rForL K g tb D0 σ x H1 := rfl
theorem e_forT : tFor (iTup K tl) g tb D0 σ H = tl σ H fun x H1 => rForT K g tb D0 σ x H1 := rfl
theorem e_forR : tFor (iRng1 ta) g tb D0 σ H = ta σ H fun x H1 => rForR g tb D0 σ x H1 := rfl
theorem e_forR2 : tFor (iRng2 ta) g tb D0 σ H = ta σ H fun x H1 => rForR2 g tb D0 σ x H1 := rfl
theorem forL (h : H1 a = some (.lst xs)) (hS : ¬ S a) (I : Nat → L2.St → Hp → Prop) (i0 : I 0 σ H1) (stay : ∀ i σ' H', I i σ' H' → Ext S H1 H')
    (step : ∀ i x σ' H', xs[i]? = some x → I i σ' H' → g x σ' H' fun σ2 H3 => tb { D0 with nx := I (i + 1), ct := I (i + 1), bk := D0.nx } σ2 H3) (fin : ∀ σ' H', I xs.length σ' H' → D0.nx σ' H') : rForL K g tb D0 σ (.ref a) H1 :=
  ⟨a, rfl, ⟨xs, SqL.of h⟩, for_core (src_list h hS) I i0 stay (fun i σ' H' _ hI x H2 y => by obtain ⟨rfl, y⟩ := y; exact step i x σ' _ y hI) fin⟩
theorem forT (h : H1 a = some (.tup xs)) (hS : ¬ S a) (I : Nat → L2.St → Hp → Prop) (i0 : I 0 σ H1) (stay : ∀ i σ' H', I i σ' H' → Ext S H1 H')
    (step : ∀ i x σ' H', xs[i]? = some x → I i σ' H' → g x σ' H' fun σ2 H3 => tb { D0 with nx := I (i + 1), ct := I (i + 1), bk := D0.nx } σ2 H3) (fin : ∀ σ' H', I xs.length σ' H' → D0.nx σ' H') : rForT K g tb D0 σ (.ref a) H1 :=
  ⟨a, rfl, ⟨xs, SqT.of h⟩, for_core (src_tup h hS) I i0 stay (fun i σ' H' _ hI x H2 y => by obtain ⟨rfl, y⟩ := y; exact step i x σ' _ y hI) fin⟩
theorem forTK (h : ∀ H : Hp, SqT K H a xs) (I : Nat → L2.St → Hp → Prop) (i0 : I 0 σ H1)
    (step : ∀ i x σ' H', xs[i]? = some x → I i σ' H' → g x σ' H' fun σ2 H3 => tb { D0 with nx := I (i + 1), ct := I (i + 1), bk := D0.nx } σ2 H3) (fin : ∀ σ' H', I xs.length σ' H' → D0.nx σ' H') : rForT K g tb D0 σ (.ref a) H1 :=
  ⟨a, rfl, ⟨xs, h _⟩, for_core (S := fun _ => True) (src_tupK h) I i0 (fun _ _ _ _ b o k => (k trivial).elim) (fun i σ' H' _ hI x H2 y => by obtain ⟨rfl, y⟩ := y; exact step i x σ' _ y hI) fin⟩
theorem forR {n : Int} (hn : n ≤ 16777216) (hn0 : -16777216 ≤ n) (I : Nat → L2.St → Hp → Prop) (i0 : I 0 σ H1)
    (step : ∀ (i : Nat) σ' H', (i : Int) < n → I i σ' H' → g (.int (i : Nat)) σ' H' fun σ2 H3 => tb { D0 with nx := I (i + 1), ct := I (i + 1), bk := D0.nx } σ2 H3) (fin : ∀ σ' H', I n.toNat σ' H' → D0.nx σ' H') : rForR g tb D0 σ [.int n] H1 := by
  refine ⟨n, rfl, by omega, by omega, for_core (S := fun _ => True) (src_rng 0 n.toNat) I i0 (fun _ _ _ _ b o k => (k trivial).elim) ?_ fin⟩
  rintro i σ' H' hi hI x H2 ⟨rfl, e2⟩
  rw [e2, Int.zero_add]
  exact step i σ' _ (by omega) hI
theorem forR2 {lo n : Int} (hn : n ≤ 16777216) (hn0 : -16777216 ≤ n) (hl0 : 0 ≤ lo) (hl1 : lo ≤ 16777216) (I : Nat → L2.St → Hp → Prop) (i0 : I 0 σ H1)
    (step : ∀ (i : Nat) σ' H', lo + (i : Int) < n → I i σ' H' → g (.int (lo + (i : Nat))) σ' H' fun σ2 H3 => tb { D0 with nx := I (i + 1), ct := I (i + 1), bk := D0.nx } σ2 H3) (fin : ∀ σ' H', I (n - lo).toNat σ' H' → D0.nx σ' H') : rForR2 g tb D0 σ [.int lo, .int n] H1 := by
  refine ⟨lo, n, rfl, ⟨by omega, by omega, by omega, by omega⟩, for_core (S := fun _ => True) (src_rng lo _) I i0 (fun _ _ _ _ b o k => (k trivial).elim) ?_ fin⟩
  rintro i σ' H' hi hI x H2 ⟨rfl, e2⟩
  rw [e2]
  exact step i σ' _ (by omega) hI
end
end U

/-! U7: shorteners, rows and what they show, in plain Lean; their data. -/
namespace U
open PySem PySem.Spec PyProof.Rows L2

/-- the text of one sign; of codes -/
def one (c : Nat) : Str := ⟨#[c]⟩
def ofL (l : List Nat) : Str := ⟨l.toArray⟩
def cd (z : Str) : List Nat := z.cps.toList
theorem cd_ofL (l : List Nat) : cd (ofL l) = l := rfl
theorem ofL_cd (z : Str) : ofL (cd z) = z := by
  unfold ofL cd
  rw [Array.toArray_toList]
theorem cd_inj {a b : Str} (h : cd a = cd b) : a = b := by
  rw [← ofL_cd a, ← ofL_cd b, h]
theorem cd_len (z : Str) : (cd z).length = z.length := by
  unfold cd
  rw [Array.length_toList]
  rfl
theorem cd_size (z : Str) : z.cps.size = (cd z).length := by
  unfold cd
  rw [Array.length_toList]
def sgn (c : Nat) : D := .str (one c)
def SIGNS : Str := PySem.Str.ofString ".0123456789abcdefghijklmnopqrstuvwxyz~"
def signs : List Nat := cd SIGNS
def isSign (c : Nat) : Bool := decide (c ∈ signs)
/-- a text of at most n signs -/
def okText (n : Nat) (z : Str) : Bool := decide (z.length ≤ n) && (cd z).all isSign
theorem okText_iff {n : Nat} {z : Str} : okText n z = true ↔ z.length ≤ n ∧ ∀ c ∈ cd z, c ∈ signs := by
  unfold okText isSign
  rw [Bool.and_eq_true, List.all_eq_true]
  simp

structure Sh where
  limit : Nat
  head : Nat
  tail : Nat
  mark : Str
def Sh.ok (s : Sh) : Prop := s.limit ≤ 40 ∧ s.head ≤ 40 ∧ s.tail ≤ 40 ∧ okText 3 s.mark = true
/-- what a shortener leaves of a list; f: how a sign of the mark stands there -/
def cutP {α : Type} (f : Nat → α) (s : Sh) (xs : List α) : List α :=
  if xs.length ≤ s.limit then xs else xs.take s.head ++ (cd s.mark).map f ++ xs.drop (xs.length - s.tail)
def cutR {α : Type} (f : Nat → α) (row : List Sh) (xs : List α) : List α := row.foldl (fun ys s => cutP f s ys) xs
theorem cutR_nil {α : Type} (f : Nat → α) (xs : List α) : cutR f [] xs = xs := rfl
theorem cutR_cons {α : Type} (f : Nat → α) (s : Sh) (row : List Sh) (xs : List α) : cutR f (s :: row) xs = cutR f row (cutP f s xs) := rfl
theorem cutR_snoc {α : Type} (f : Nat → α) (s : Sh) (row : List Sh) (xs : List α) : cutR f (row ++ [s]) xs = cutP f s (cutR f row xs) := by
  unfold cutR
  rw [List.foldl_append]
  rfl
theorem cutR_append {α : Type} (f : Nat → α) (r1 r2 : List Sh) (xs : List α) : cutR f (r1 ++ r2) xs = cutR f r2 (cutR f r1 xs) := by
  unfold cutR
  rw [List.foldl_append]
theorem cutP_map {α β : Type} (f : Nat → α) (g : α → β) (s : Sh) (xs : List α) : cutP (fun c => g (f c)) s (xs.map g) = (cutP f s xs).map g := by
  unfold cutP
  rw [List.length_map]
  split
  · rfl
  · rw [List.map_append, List.map_append, List.map_take, List.map_drop, List.map_map]
    rfl
theorem cutR_map {α β : Type} (f : Nat → α) (g : α → β) : ∀ (row : List Sh) (xs : List α), cutR (fun c => g (f c)) row (xs.map g) = (cutR f row xs).map g
  | [], _ => rfl
  | s :: row, xs => by
    rw [cutR_cons, cutR_cons, cutP_map, cutR_map f g row]
/-- what a row shows of a text -/
def showC (row : List Sh) (l : List Nat) : List Nat := cutR id row l
def showS (row : List Sh) (z : Str) : Str := ofL (showC row (cd z))
theorem cutR_sgn (row : List Sh) (l : List Nat) : cutR sgn row (l.map sgn) = (showC row l).map sgn := cutR_map id sgn row l
theorem cutP_len {α : Type} (f : Nat → α) (s : Sh) (xs : List α) : (cutP f s xs).length ≤ xs.length + s.mark.length + xs.length := by
  unfold cutP
  split
  · omega
  · rw [List.length_append, List.length_append, List.length_map, cd_len, List.length_take, List.length_drop]
    omega
/-- no more than the limit, or than head, mark and tail together -/
theorem cutP_le {α : Type} (f : Nat → α) {s : Sh} (h : s.ok) (xs : List α) : (cutP f s xs).length ≤ 83 ∨ (cutP f s xs).length ≤ 40 := by
  obtain ⟨h1, h2, h3, h4⟩ := h
  have h5 := (okText_iff.mp h4).1
  left
  unfold cutP
  split
  · omega
  · rw [List.length_append, List.length_append, List.length_map, cd_len, List.length_take, List.length_drop]
    omega
theorem cutP_le83 {α : Type} (f : Nat → α) {s : Sh} (h : s.ok) (xs : List α) : (cutP f s xs).length ≤ 83 := by
  rcases cutP_le f h xs with z | z <;> omega
theorem cutR_le {α : Type} (f : Nat → α) : ∀ {row : List Sh} (_ : ∀ s ∈ row, s.ok) (xs : List α) {n : Nat}, xs.length ≤ n → 83 ≤ n → (cutR f row xs).length ≤ n
  | [], _, xs, n, h, _ => h
  | s :: row, hr, xs, n, _, h2 => by
    rw [cutR_cons]
    exact cutR_le f (fun t ht => hr t (List.mem_cons_of_mem _ ht)) _ (Nat.le_trans (cutP_le83 f (hr s List.mem_cons_self) xs) h2) h2
theorem cutP_all {α : Type} {f : Nat → α} {s : Sh} {P : α → Prop} (hm : ∀ c ∈ cd s.mark, P (f c)) {xs : List α} (hx : ∀ x ∈ xs, P x) : ∀ x ∈ cutP f s xs, P x := by
  intro x h
  unfold cutP at h
  split at h
  · exact hx x h
  · rcases List.mem_append.mp h with h | h
    · rcases List.mem_append.mp h with h | h
      · exact hx x (List.mem_of_mem_take h)
      · obtain ⟨c, hc, rfl⟩ := List.mem_map.mp h
        exact hm c hc
    · exact hx x (List.mem_of_mem_drop h)
theorem cutR_all {α : Type} {f : Nat → α} {P : α → Prop} : ∀ {row : List Sh} (_ : ∀ s ∈ row, ∀ c ∈ cd s.mark, P (f c)) {xs : List α} (_ : ∀ x ∈ xs, P x), ∀ x ∈ cutR f row xs, P x
  | [], _, _, hx => hx
  | s :: row, hm, xs, hx => by
    rw [cutR_cons]
    exact cutR_all (fun t ht => hm t (List.mem_cons_of_mem _ ht)) (cutP_all (hm s List.mem_cons_self) hx)
theorem showS_ok {row : List Sh} (hr : ∀ s ∈ row, s.ok) {z : Str} {n : Nat} (hz : okText n z = true) (hn : 83 ≤ n) : okText n (showS row z) = true := by
  obtain ⟨h1, h2⟩ := okText_iff.mp hz
  refine okText_iff.mpr ⟨?_, ?_⟩
  · rw [← cd_len]
    show (showC row (cd z)).length ≤ n
    exact cutR_le id hr _ (by rw [cd_len]; exact h1) hn
  · show ∀ c ∈ showC row (cd z), c ∈ signs
    exact cutR_all (P := fun c => c ∈ signs) (fun s hs c hc => (okText_iff.mp (hr s hs).2.2.2).2 c hc) h2

/-! ### their data -/
def toldD (s : Sh) : D := .tup [.int s.limit, .int s.head, .int s.tail, .str s.mark]
def shNs : List Str := ["limit", "head", "tail", "mark", "told"]
def shD (C : Addr) (s : Sh) : D := .ins C shNs [.int s.limit, .int s.head, .int s.tail, .str s.mark, toldD s]
theorem toldD_flat (s : Sh) : D.flat (toldD s) = true := by simp [toldD, D.flat, D.flats]
theorem shD_flat (C : Addr) (s : Sh) : D.flat (shD C s) = true := by simp [shD, toldD, D.flat, D.flats]
def rowD (C : Addr) (row : List Sh) : D := .tup (row.map (shD C))
def toldsD (row : List Sh) : D := .lst (row.map toldD)
def signsD (l : List Nat) : List D := l.map sgn
theorem sgn_flat (c : Nat) : D.flat (sgn c) = true := rfl
theorem dt_signs {S : Addr → Prop} {H : Hp} : ∀ l : List Nat, DtA S H (l.map fun c => V.str (one c)) (l.map sgn)
  | [] => .nil
  | c :: l => .cons (.str _) (dt_signs l)
theorem dt_signsV {S : Addr → Prop} {H : Hp} (z : Str) : DtA S H (signsV z) ((cd z).map sgn) := dt_signs (cd z)
/-- a list at an address, a tuple -/
theorem dt_lst {S : Addr → Prop} {H : Hp} {v : V} {ds : List D} (h : Dt S H v (.lst ds)) : ∃ a xs, v = .ref a ∧ ¬ S a ∧ H a = some (.lst xs) ∧ DtA S H xs ds := by
  cases h with
  | lst n ha hs => exact ⟨_, _, rfl, n, ha, hs⟩
theorem dt_tup {S : Addr → Prop} {H : Hp} {v : V} {ds : List D} (h : Dt S H v (.tup ds)) : ∃ a xs, v = .ref a ∧ ¬ S a ∧ H a = some (.tup xs) ∧ DtA S H xs ds := by
  cases h with
  | tup n ha hs => exact ⟨_, _, rfl, n, ha, hs⟩
theorem join_one1 (l : List Nat) : Txt.join (PySem.Str.ofString "") (l.map one) = ofL l := by
  have e := SX.join_S [] (l.map fun c => [c])
  rw [List.map_map] at e
  have e1 : SX.S [] = PySem.Str.ofString "" := rfl
  have e2 : (SX.S ∘ fun c => [c]) = one := rfl
  rw [e1, e2] at e
  rw [e]
  have h : ∀ l : List Nat, TL.joinL [] (l.map fun c => [c]) = l := by
    intro l
    induction l with
    | nil => rfl
    | cons c r ih =>
      cases r with
      | nil => rfl
      | cons d t =>
        show [c] ++ [] ++ TL.joinL [] ((d :: t).map fun c => [c]) = c :: d :: t
        rw [ih]
        rfl
  rw [h]
  rfl
end U

/-! U8: the rules with the written part told (so that they go within a comprehension, too). -/
namespace U
open PySem PySem.Spec PyProof.Rows L2 StX
section
variable {X : Cx} {K : PySem.W.Frag} {e o a b : Expr} {te to : TE} {tg : Expr} {ta : TA}
theorem op_eqK (h : X.K = K) (hu : X.A.units + 64 < cLine) : OpR X (compareOp .Eq) (rEqU K) := by subst h; exact op_eqU hu
theorem op_neK (h : X.K = K) (hu : X.A.units + 64 < cLine) : OpR X (compareOp .NotEq) (rNeU K) := by subst h; exact op_neU hu
theorem op_inK (h : X.K = K) : OpR X (compareOp .In) (rInU K) := by subst h; exact op_inU
theorem op_ninK (h : X.K = K) : OpR X (compareOp .NotIn) (rNinU K) := by subst h; exact op_ninU
theorem ix_K (h : X.K = K) : IxR X (rIxU K) := by subst h; exact ix_U
theorem sl_K (h : X.K = K) : SlR X (rSlU K) := by subst h; exact sl_U
theorem call_lenK (h : X.K = K) : CallR X (.builtin "len") (rLenU K) := by subst h; exact call_lenU
theorem call_listK (h : X.K = K) (hc : X.calm = true) : CallR X (.type "list") (rListU K) := by subst h; exact call_listU hc
theorem call_isiK (h : X.K = K) : CallR X (.builtin "isinstance") (rIsi K) := by subst h; exact call_isi
theorem cr_allK (h : X.K = K) (hc : X.calm = true) : CallR X (.builtin "all") (rAll K) := by subst h; exact cr_all hc
theorem cr_anyK (h : X.K = K) (hc : X.calm = true) : CallR X (.builtin "any") (rAny K) := by subst h; exact cr_any hc
theorem cr_maxK (h : X.K = K) (hc : X.calm = true) : CallR X (.builtin "max") (rMax K) := by subst h; exact cr_max hc
theorem cr_minK (h : X.K = K) (hc : X.calm = true) : CallR X (.builtin "min") (rMin K) := by subst h; exact cr_min hc
theorem cr_sumK (h : X.K = K) (hc : X.calm = true) : CallR X (.builtin "sum") (rSum K) := by subst h; exact cr_sum hc
theorem call_reprK (h : X.K = K) (hg : X.A.guards = some []) (hu : X.A.units + 64 < cLine) : CallR X (.builtin "repr") (rRepr K) := by subst h; exact call_repr hg hu
theorem pe_fldK (h : X.K = K) {f : Str} {pos : Pos} (he : PE X e te) (hb : attributeBase e f X.env (eval e X.env) = eval e X.env := by rfl) : PE X (.Attribute e f pos) (tFld K te f) := by subst h; exact pe_fld he hb
theorem pi_listK (h : X.K = K) (he : PE X e te) : PI X tg e (iList K te) := by subst h; exact pi_list he
theorem pi_tupK (h : X.K = K) (he : PE X e te) : PI X tg e (iTup K te) := by subst h; exact pi_tup he
theorem pa_starK (h : X.K = K) {es : List Expr} {t : TA} {p : Pos} (he : PE X e te) (hr : PA X es t) (hs : starEach (.Starred e p :: es) X.env = (true, eval e X.env) :: starEach es X.env := by rfl) : PA X (.Starred e p :: es) (tStar K te t) := by subst h; exact pa_star he hr hs
/-- '..'.join(xs) -/
def rJoin (K : PySem.W.Frag) : V → List V → Hp → VK → Prop := fun x xs H Q => ∃ a p, ∃ ys : List Str, x = .str a ∧ xs = [.ref p] ∧ (SqL K H p (ys.map V.str) ∨ SqT K H p (ys.map V.str)) ∧ (ys.map (·.length)).sum + ys.length * a.length ≤ 16777216 ∧ Q (.str (Txt.join a ys)) H
theorem pe_joinK (h : X.K = K) {apos pos : Pos} (ho : PE X o to) (he : PE X e te) (hs : starEach [e] X.env = [(false, eval e X.env)] := by rfl) (hbase : attributeBase o "join" X.env (eval o X.env) = eval o X.env := by rfl) (hline : (apos.endLine == pos.line) = true := by rfl) :
    PE X (.Call (.Attribute o "join" apos) [e] [] pos) (tM1 (rJoin K) to te) := by subst h; exact pe_join ho he hs hbase hline
/-- tuple(xs) -/
theorem pe_tupOfK (h : X.K = K) {p pos : Pos} (hg : Gl X "tuple") (hm : X.mg "tuple" = none) (he : PE X e te) (na : starEach [e] X.env = (false, eval e X.env) :: starEach [] X.env := by rfl) : PE X (.Call (.Name "tuple" p) [e] [] pos) (tThen te (kTup K)) := by
  subst h
  exact pe_tupleOf hg hm he na
theorem e_then {σ : L2.St} {H : Hp} {Q : VK} {k : V → Hp → VK → Prop} : tThen te k σ H Q = te σ H fun x H1 => k x H1 Q := rfl
theorem e_star {σ : L2.St} {H : Hp} {Q : List V → Hp → Prop} {t : TA} : tStar K te t σ H Q = te σ H fun x H1 => ∃ p xs, x = V.ref p ∧ (SqT K H1 p xs ∨ SqL K H1 p xs) ∧ t σ H1 fun ys H2 => Q (xs ++ ys) H2 := rfl
/-- a star display's part: a list at p -/
theorem star_l {p : Addr} {xs : List V} {H : Hp} {R : List V → Prop} (h : H p = some (.lst xs)) (r : R xs) : ∃ q ys, V.ref p = V.ref q ∧ (SqT K H q ys ∨ SqL K H q ys) ∧ R ys := ⟨p, xs, rfl, .inr (SqL.of h), r⟩
end
end U
namespace U
open PySem PySem.Spec PyProof.Rows L2
theorem e_yes {σ : L2.St} {H : Hp} {R : Bool → Hp → Prop} : tYes σ H R = R true H := rfl
end U
namespace U
theorem take_snoc {α : Type} {l : List α} {i : Nat} {c : α} (h : l[i]? = some c) : l.take (i + 1) = l.take i ++ [c] := by
  rw [List.take_add_one, h]
  rfl
theorem take_map {α β : Type} {l : List α} {i : Nat} {c : α} (f : α → β) (h : l[i]? = some c) : (l.take i).map f ++ [f c] = (l.take (i + 1)).map f := by
  rw [take_snoc h, List.map_append]
  rfl
theorem cd_get {z : PySem.Str} {i c : Nat} (h : z.cps[i]? = some c) : (cd z)[i]? = some c := by
  unfold cd
  rw [Array.getElem?_toList]
  exact h
end U
namespace U
open PySem PySem.Spec PyProof.Rows L2
theorem e_sfld {σ : L2.St} {H : Hp} {D0 : Ends} {K : PySem.W.Frag} {ta tv : TE} {f : Str} : sFld K ta tv f D0 σ H = tv σ H fun y H1 => ta σ H1 fun x H2 => ∃ a C dx fs, x = .ref a ∧ H2 a = some (.ins C dx fs) ∧ Cls K C ∧ NoAttr K C f ∧ fs.length < 1000 ∧ D0.nx σ (upd H2 a (.ins C dx (putF f y fs))) := rfl
theorem sh_f1 (l : V) : putF "limit" l [] = [(("limit" : Str), l)] := rfl
theorem sh_f2 (l h : V) : putF "head" h [(("limit" : Str), l)] = [(("limit" : Str), l), ("head", h)] := by rfl
theorem sh_f3 (l h t : V) : putF "tail" t [(("limit" : Str), l), ("head", h)] = [(("limit" : Str), l), ("head", h), ("tail", t)] := by rfl
theorem sh_f4 (l h t m : V) : putF "mark" m [(("limit" : Str), l), ("head", h), ("tail", t)] = [(("limit" : Str), l), ("head", h), ("tail", t), ("mark", m)] := by rfl
theorem sh_f5 (l h t m d : V) : putF "told" d [(("limit" : Str), l), ("head", h), ("tail", t), ("mark", m)] = [(("limit" : Str), l), ("head", h), ("tail", t), ("mark", m), ("told", d)] := by rfl
/-- a new instance, its own dict -/
theorem made_same {H H' : Hp} {x dx C : Addr} (h : Ext (fun a => a = x) (upd (upd H dx (.own x)) x (.ins C dx [])) H') (nx : H x = none) (nd : H dx = none) : Same H H' := fun b o e => by
  have n1 := ne_of_none e nx
  have n2 := ne_of_none e nd
  exact h b o n1 (by rw [upd_ne n1, upd_ne n2]; exact e)
/-- the fields of a shortener -/
structure ShF (S : Addr → Prop) (H : Hp) (C : Addr) (a : Addr) (s : Sh) : Prop where
  ex : ∃ dx t, ¬ S a ∧ H a = some (.ins C dx [(("limit" : Str), .int s.limit), ("head", .int s.head), ("tail", .int s.tail), ("mark", .str s.mark), ("told", t)]) ∧ Dt S H t (toldD s)
theorem shF_of {S : Addr → Prop} {H : Hp} {C : Addr} {v : V} {s : Sh} (h : Dt S H v (shD C s)) : ∃ a, v = .ref a ∧ ShF S H C a s := by
  unfold shD at h
  cases h with
  | @ins a _ dx fs _ _ n ha hn hs =>
    refine ⟨a, rfl, dx, ?_⟩
    match fs, hn, hs with
    | [(_, _), (_, _), (_, _), (_, _), (_, _)], hn, .cons h1 (.cons h2 (.cons h3 (.cons h4 (.cons h5 .nil)))) =>
      simp only [shNs, List.map_cons, List.map_nil, List.cons.injEq, and_true] at hn
      obtain ⟨rfl, rfl, rfl, rfl, rfl⟩ := hn
      cases h1
      cases h2
      cases h3
      cases h4
      exact ⟨_, n, ha, h5⟩
theorem dt_sh {S : Addr → Prop} {H : Hp} {C a dx : Addr} {s : Sh} {t : V} (n : ¬ S a) (h : H a = some (.ins C dx [(("limit" : Str), .int s.limit), ("head", .int s.head), ("tail", .int s.tail), ("mark", .str s.mark), ("told", t)])) (ht : Dt S H t (toldD s)) : Dt S H (.ref a) (shD C s) :=
  .ins n h rfl (.cons (.int _) (.cons (.int _) (.cons (.int _) (.cons (.str _) (.cons ht .nil)))))
end U
namespace U
open PySem PySem.Spec PyProof.Rows L2
section
variable {σ : L2.St} {H : Hp} {R : L2.St → Hp → Prop} {K : PySem.W.Frag}
theorem e_gcons {t : TG} {u : TGs} {x : V} {r : List V} : gCons t u (x :: r) σ H R = t x σ H fun σ1 H1 => u r σ1 H1 R := by
  apply propext
  constructor
  · rintro ⟨v, l, h, q⟩
    cases h
    exact q
  · exact fun q => ⟨x, r, rfl, q⟩
theorem e_gnil : gNil [] σ H R = R σ H := by
  apply propext
  exact ⟨fun q => q.2, fun q => ⟨rfl, q⟩⟩
theorem e_gtup {n : Nat} {t : TGs} {v : V} : gTup K n t v σ H R = ∃ a xs, v = .ref a ∧ SqT K H a xs ∧ xs.length = n ∧ t xs σ H R := rfl
theorem e_gsub {to ti : TE} {t : TSet} {v : V} : gSub to ti t v σ H R = to σ H fun o H1 => ti σ H1 fun i H2 => t o i v H2 fun H3 => R σ H3 := rfl
theorem pg_tupK {X : Cx} (h : X.K = K) {es : List Expr} {k : Nat} {pos : Pos} {t : TGs} {n : Nat} (hc : X.calm = true) (ht : PGs X es t) (hn : (assignEach es X.env).length = n := by rfl) (hst : (assignEach es X.env).findIdx? (·.1) = none := by rfl) : PG X (.Tuple es k pos) (gTup K n t) := by
  subst h
  exact pg_tup hc ht hn hst
end
end U
namespace U
open PySem PySem.Spec PyProof.Rows L2
section
variable {σ : L2.St} {H : Hp} {Q : VK} {K : PySem.W.Frag}
theorem e_make {C : Addr} {sp : Sp} {dvs : List V} {E : XK} {t : TA} : tMake C sp dvs E t σ H Q = t σ H fun vs H1 => ∀ x dx, H1 x = none → H1 dx = none → dx ≠ x → sp (.ref x :: (vs ++ dvs)) (upd (upd H1 dx (.own x)) x (.ins C dx [])) (fun v H2 => v = .non ∧ Q (.ref x) H2) E := rfl
theorem e_makeK {C : Addr} {n m : Nat} {sp : Sp} {gV : List V → List V → List V} {E : XK} {t tk : TA} : tMakeK C n m sp gV E t tk σ H Q = t σ H fun vs H1 => tk σ H1 fun zs H2 => vs.length = n ∧ zs.length = m ∧ ∀ x dx, H2 x = none → H2 dx = none → dx ≠ x →
  sp (gV (.ref x :: vs) zs) (upd (upd H2 dx (.own x)) x (.ins C dx [])) (fun v H3 => v = .non ∧ Q (.ref x) H3) E := rfl
theorem e_callN {n m : Nat} {sp : Sp} {gV : List V → List V → List V} {E : XK} {t tk : TA} : tCallN n m sp gV E t tk σ H Q = t σ H fun vs H1 => tk σ H1 fun zs H2 => vs.length = n ∧ zs.length = m ∧ sp (gV vs zs) H2 Q E := rfl
theorem e_meth {C : Addr} {m : Str} {sp : Sp} {dvs : List V} {E : XK} {ta : TE} {t : TA} : tMeth C m sp dvs E ta t σ H Q = ta σ H fun x H1 => ∃ a dx fs, x = .ref a ∧ H1 a = some (.ins C dx fs) ∧ fs.lookup m = none ∧ t σ H1 fun vs H2 => sp (x :: (vs ++ dvs)) H2 Q E := rfl
theorem e_kTup {p : Addr} : kTup K (.ref p) H Q = ((∃ xs, SqL K H p xs ∧ ∀ q, H q = none → Q (.ref q) (upd H q (.tup xs))) ∨ (∃ xs, SqT K H p xs ∧ Q (.ref p) H)) := by
  apply propext
  unfold kTup
  constructor
  · rintro (⟨q, xs, h, r⟩ | ⟨q, xs, h, r⟩)
    · cases h
      exact .inl ⟨xs, r⟩
    · cases h
      exact .inr ⟨xs, r⟩
  · rintro (⟨xs, r⟩ | ⟨xs, r⟩)
    · exact .inl ⟨p, xs, rfl, r⟩
    · exact .inr ⟨p, xs, rfl, r⟩
end
/-- a told tuple -/
theorem dt_told {S : Addr → Prop} {H : Hp} {v : V} {s : Sh} (h : Dt S H v (toldD s)) : ∃ a, v = .ref a ∧ ¬ S a ∧ H a = some (.tup [.int s.limit, .int s.head, .int s.tail, .str s.mark]) := by
  obtain ⟨a, xs, rfl, n, ha, hs⟩ := dt_tup h
  match xs, hs with
  | [_, _, _, _], .cons h1 (.cons h2 (.cons h3 (.cons h4 .nil))) =>
    cases h1
    cases h2
    cases h3
    cases h4
    exact ⟨a, rfl, n, ha⟩
end U

/-! U9: enumerate of a tuple. -/
namespace U
open PySem PySem.Spec PyProof.Rows L2
set_option maxHeartbeats 8000000 in
theorem meets_enum1 {v : Value} {o : Obj} {W : Heap → Prop} (B : Begins v o W) :
    Meets (Builtin.«enumerate.__new__» ⟨[.type "enumerate", v], []⟩) (fun _ R s => W s.heap ∧
      R (.ok (.ret (.ref (s.heap.push o).objs.size))) { s with heap := (s.heap.push o).push { cls := .type "enumerate", data := .fields #[.none, .bool false, .ref s.heap.objs.size, rawInt 0, .none, .none] } }) :=
  .of_wp fun prog w A R s h => by
    obtain ⟨hp, g, d, tk, os⟩ := s
    obtain ⟨h1, h⟩ := h
    have q1 : ∀ {A' : Around} {E : Value → Shared → Prop} {Q : Value → Shared → Prop}, Q (.ref hp.objs.size) ⟨hp.push o, g, d, tk, os⟩ → wpAny (model prog w) A' (pyIter v) Q E ⟨hp, g, d, tk, os⟩ :=
      fun q => B.iter prog w _ _ ⟨hp, g, d, tk, os⟩ _ h1 q
    have hsub := sub_enumerate
    wp_walk using q1
    refine wpAny_stack_any (fun st => wpAny_pure ?_)
    split
    · rename_i c _ _ _ _ _
      cases (c == Value.type "enumerate") <;> (wp_walk using q1; exact ⟨_, rfl, h⟩)
    · wp_walk using q1
      exact ⟨_, rfl, h⟩
def enO (it : Addr) : Obj := { cls := .type "enumerate", data := .fields #[.none, .bool false, .ref it, rawInt 0, .none, .none] }
theorem call_enum1 {prog : Program} {w : World} {A : Around} {E : Value → Shared → Prop} {s : Shared} {v : Value} {o : Obj} {W : Heap → Prop} {Q : Value → Shared → Prop} (B : Begins v o W) (h1 : W s.heap)
    (q : ∀ h', IsEnum h' (s.heap.objs.size + 1) s.heap.objs.size 0 .none → h'.get? s.heap.objs.size = some o → (∀ b u, s.heap.get? b = some u → h'.get? b = some u) → Q (.ref (s.heap.objs.size + 1)) { s with heap := h' }) :
    wpAny (model prog w) A (call (.type "enumerate") [v]) Q E s := by
  refine callType_new F.called_enumerate (by decide) (F.typeCall_enumerate_1 _) (F.newCall_enumerate_1 _) (fun obj => F.args_object_init_2 obj _) F.entry_enumerate_new (meets_enum1 B) ⟨h1, ?_⟩
  have sz : (s.heap.push o).objs.size = s.heap.objs.size + 1 := Heap.size_push ..
  have en : ((s.heap.push o).push (enO s.heap.objs.size)).get? (s.heap.objs.size + 1) = some (enO s.heap.objs.size) := by
    have z := Heap.get?_push_size (s.heap.push o) (o := enO s.heap.objs.size) rfl
    rw [sz] at z
    exact z
  show _ ∧ _
  rw [sz]
  exact ⟨⟨_, en, rfl⟩, q _ en (Heap.get?_push_of_some _ (Heap.get?_push_size _ B.free)) (fun b u e => Heap.get?_push_of_some _ (Heap.get?_push_of_some _ e))⟩

/-- the tuple at a as it stands at each turn, place and item in a new pair -/
def IteT (K : PySem.W.Frag) (a : Addr) : It where
  go i H := ∃ (xs : List V) (x : V), SqT K H a xs ∧ xs[i]? = some x
  yld i H v H' := ∃ T x, v = .ref T ∧ H T = none ∧ H' = upd H T (.tup [.int (i : Nat), x]) ∧ ∀ xs, SqT K H a xs → xs[i]? = some x
  stop i H := ∃ xs : List V, SqT K H a xs ∧ xs.length = i
theorem turn_enumT {P : Program} {w : World} {K : PySem.W.Frag} {elts : List Expr} {kk : Nat} {tpos : Pos} (a e it : Addr) (ha : a ≠ it) (hae : e ≠ a) (hei : e ≠ it) :
    Turn P w K (.Tuple elts kk tpos) (IteT K a) [e, it] e (fun i h => (∃ old, IsEnum h e it ((i : Nat) : Int) old) ∧ h.IsTupleIter it a i) where
  mem := List.mem_cons_self
  obj := fun i h st b hb => by
    obtain ⟨⟨old, he⟩, o, ho, hc, hd⟩ := st
    rcases List.mem_cons.mp hb with z | z
    · exact ⟨_, by rw [z]; exact he, fun v q => by cases q⟩
    · have z' : b = it := List.mem_singleton.mp z
      exact ⟨o, by rw [z']; exact ho, fun v q => by rw [hd] at q; cases q⟩
  keep := fun i h h' st k => by
    obtain ⟨⟨old, he⟩, hi⟩ := st
    exact ⟨⟨old, k e List.mem_cons_self _ he⟩, hi.at fun o q => k it (List.mem_cons_of_mem _ List.mem_cons_self) o q⟩
  item := by
    intro X hP hw hK hc i pins s σ H E I hf st hg
    subst hP hw hK
    obtain ⟨⟨old, he⟩, hit⟩ := st
    obtain ⟨xs, x, hq, hx⟩ := hg
    obtain ⟨its, rv, p, hz⟩ := I.tuple hq
    obtain ⟨u, hu, ru⟩ := rv.get hx
    have tp : s.heap.IsTuple a its.toArray := p
    have lt1 : e < s.heap.objs.size := Heap.lt_size he
    have lt2 : it < s.heap.objs.size := by
      obtain ⟨_, q, _⟩ := hit
      exact Heap.lt_size q
    have hu2 : its.toArray[i]? = some u := by simpa using hu
    have hlt : i < its.toArray.size := by
      rcases Nat.lt_or_ge i its.toArray.size with z | z
      · exact z
      · rw [Array.getElem?_eq_none z] at hu2
        cases hu2
    have D := Draws.tuple (prog := X.prog) (w := X.w) (A := X.A.in1) (I.ok.hd hc) it a ha its.toArray
    refine wpAny_pyNext_enum_itemD D he ⟨hit, tp⟩ hlt hei (by simp [hei, hae]) ?_
    intro x' h' tk hx' ho hst' hT hsz hk
    rw [hu2] at hx'
    cases hx'
    refine ⟨_, rfl, wpAny_letOwnedTupleGo_enum (s := { s with heap := h', toks := tk + 1 }) ho ?_⟩
    intro h'' he' sb
    have ne1 : s.heap.objs.size ≠ e := Nat.ne_of_gt lt1
    have hT2 := (sb.2 _ ne1).trans hT
    have new : ObjOk X.prog X.w (upd H s.heap.objs.size (.tup [.int (i : Nat), x])) h'' s.heap.objs.size (.tup [.int (i : Nat), x]) :=
      ⟨by show 2 ≤ sizeLine; decide, [.int i tk, u], .cons ⟨_, rfl⟩ (.cons ru .nil), ⟨_, hT2, rfl, _, rfl⟩⟩
    have kp : ∀ b ob, b ∉ [e, it] → s.heap.get? b = some ob → h''.get? b = some ob := fun b ob hb q => by
      have b1 : b ≠ e := fun z => hb (by simp [z])
      have b2 : b ≠ it := fun z => hb (by simp [z])
      exact (sb.2 b b1).trans (hk b ob b1 b2 q)
    have I1 : Inv X pins σ (upd H s.heap.objs.size (.tup [.int (i : Nat), x])) { s with heap := h'', toks := tk + 1 } := I.turnedNew (ch := [e, it]) kp hf (Nat.le_refl _) new
    have fr : H s.heap.objs.size = none := I.hok.fresh (Nat.le_refl _)
    refine ⟨.ref s.heap.objs.size, _, I1, rfl, ⟨_, x, rfl, fr, rfl, fun ys hy => by rw [I.tuple_inj hy hq]; exact hx⟩, ⟨⟨u, ?_⟩, hst'.1.at fun o q => (sb.2 it hei.symm).trans q⟩, fun b hb => ?_⟩
    · have e1 : ((i + 1 : Nat) : Int) = (i : Int) + 1 := by omega
      rw [e1]
      exact he'
    · have hb' : b < s.heap.objs.size := by
        rcases List.mem_cons.mp hb with z | z
        · rw [z]
          exact lt1
        · rw [List.mem_singleton.mp z]
          exact lt2
      rw [upd_ne (Nat.ne_of_lt hb')]
      exact (hf b hb).1
  done := by
    intro X hP hw hK hc i pins s σ H E I hf st hg
    subst hP hw hK
    obtain ⟨⟨old, he⟩, hit⟩ := st
    obtain ⟨xs, hq, hx⟩ := hg
    obtain ⟨its, rv, p, hz⟩ := I.tuple hq
    have tp : s.heap.IsTuple a its.toArray := p
    obtain ⟨f0, f1, f2, f3, f4, f5⟩ := hf it (List.mem_cons_of_mem _ List.mem_cons_self)
    have hl := rv.length
    have D := Draws.tuple (prog := X.prog) (w := X.w) (A := X.A.in1) (I.ok.hd hc) it a ha its.toArray
    have ei : its.toArray.size = i := by
      rw [List.size_toArray, ← hl, hx]
    refine wpAny_pyNext_enum_endD D he ⟨by rw [ei]; exact hit, tp⟩ ?_
    intro h' eb
    exact ⟨rfl, I.turned (t' := s.toks) (fun b o hb q => eb b o hb q) f0 f1 f3 f4 f5⟩
  self := fun A i s Q E st h => by
    obtain ⟨⟨_, he⟩, _⟩ := st
    exact wpAny_pyIter_enum he h
def iEnumT (K : PySem.W.Frag) (ta : TA) : TI := fun σ H R => ta σ H fun vs H1 => ∃ a xs, vs = [.ref a] ∧ SqT K H1 a xs ∧ R (IteT K a) H1
theorem pi_enumT {X : Cx} {K : PySem.W.Frag} {e : Expr} {ta : TA} {p pos tpos : Pos} {elts : List Expr} {kk : Nat} (hK : X.K = K) (hg : Gl X "enumerate") (hm : X.mg "enumerate" = none) (ha : PA X [e] ta) (hs : starEach [e] X.env = [(false, eval e X.env)] := by rfl) :
    PI X (.Tuple elts kk tpos) (.Call (.Name "enumerate" p) [e] [] pos) (iEnumT K ta) := by
  subst hK
  refine ⟨fun pins s σ H R I h => Call_ (ld_blt I hg hm boot_enumerate (PyProof.Rows.callWith_type1 (thn (ha.run pos pins s σ H _ I h) ?_) hs rfl))⟩
  rintro us s1 ⟨vs, H1, I1, r1, a, xs, rfl, hq, q⟩
  obtain ⟨u, rfl, ru⟩ := vals1 r1
  cases ru
  obtain ⟨its, rv, p', hz⟩ := I1.tuple hq
  have tp : s1.heap.IsTuple a its.toArray := p'
  have la : a < s1.heap.objs.size := by
    obtain ⟨o, z, _⟩ := tp
    exact Heap.lt_size z
  refine call_enum1 (begins_tuple a its.toArray) tp ?_
  intro h' he hit hk
  refine wpAny_pyIter_enum he ?_
  have I2 : Inv X pins σ H1 { s1 with heap := h' } := I1.kept (t' := s1.toks) hk
  have n1 : a ≠ s1.heap.objs.size := Nat.ne_of_lt la
  have n2 : s1.heap.objs.size + 1 ≠ a := fun z => by rw [← z] at la; exact absurd la (Nat.not_lt.mpr (Nat.le_succ _))
  refine ⟨s1.heap.objs.size + 1, [s1.heap.objs.size + 1, s1.heap.objs.size], _, _, H1, rfl, I2, turn_enumT a (s1.heap.objs.size + 1) s1.heap.objs.size n1 n2 (Nat.succ_ne_self _), ⟨⟨.none, he⟩, ?_⟩, fun b hb => ?_, q⟩
  · exact ⟨_, hit, rfl, rfl⟩
  · have hle : s1.heap.objs.size ≤ b := by
      rcases List.mem_cons.mp hb with z | z
      · rw [z]
        exact Nat.le_succ _
      · rw [List.mem_singleton.mp z]
        exact Nat.le_refl _
    exact I1.fpOk hle (I1.hok.fresh hle)
theorem src_enumT {K : PySem.W.Frag} {S : Addr → Prop} {H0 : Hp} {a : Addr} {xs : List V} (h : H0 a = some (.tup xs)) (n : ¬ S a) :
    Src S (IteT K a) H0 xs.length (fun i x H' H2 => ∃ T y, x = .ref T ∧ H' T = none ∧ H2 = upd H' T (.tup [.int (i : Nat), y]) ∧ xs[i]? = some y) := by
  refine ⟨fun H' e => ⟨xs, SqT.of (e _ _ n h), rfl⟩, fun i H' hi e => ⟨xs, xs[i], SqT.of (e _ _ n h), by simp [hi]⟩, fun i H' x H2 hi e y => ?_⟩
  obtain ⟨T, y, h1, h2, h3, h4⟩ := y
  exact ⟨T, y, h1, h2, h3, h4 xs (SqT.of (e _ _ n h))⟩
def rForE (K : PySem.W.Frag) (g : TG) (tb : TS) (D0 : Ends) (σ : L2.St) (vs : List V) (H1 : Hp) : Prop := ∃ a xs, vs = [.ref a] ∧ SqT K H1 a xs ∧ ForOn (IteT K a) g tb D0 σ H1
section
variable {K : PySem.W.Frag} {S : Addr → Prop} {H H1 : Hp} {a : Addr} {xs : List V} {g : TG} {tb : TS} {σ : L2.St} {D0 : Ends} {ta : TA}
theorem e_forE : tFor (iEnumT K ta) g tb D0 σ H = ta σ H fun x H1 => rForE K g tb D0 σ x H1 := rfl
theorem forE (h : H1 a = some (.tup xs)) (hS : ¬ S a) (I : Nat → L2.St → Hp → Prop) (i0 : I 0 σ H1) (stay : ∀ i σ' H', I i σ' H' → Ext S H1 H')
    (step : ∀ i y σ' H' T, xs[i]? = some y → I i σ' H' → H' T = none → g (.ref T) σ' (upd H' T (.tup [.int (i : Nat), y])) fun σ2 H3 => tb { D0 with nx := I (i + 1), ct := I (i + 1), bk := D0.nx } σ2 H3) (fin : ∀ σ' H', I xs.length σ' H' → D0.nx σ' H') : rForE K g tb D0 σ [.ref a] H1 := by
  refine ⟨a, xs, rfl, SqT.of h, for_core (src_enumT h hS) I i0 stay ?_ fin⟩
  rintro i σ' H' hi hI x H2 ⟨T, y, rfl, hT, rfl, hy⟩
  exact step i y σ' H' T hy hI hT
end
end U
namespace U
open PySem PySem.Spec PyProof.Rows L2
theorem cutV_to (xs : List V) (n : Nat) : cutV xs none (some (n : Int)) = xs.take n := by
  unfold cutV
  rw [HT.sIx_none, HT.sIx_nat, List.drop_zero, Nat.sub_zero]
  by_cases h : n ≤ xs.length
  · rw [Nat.min_eq_left h]
  · rw [Nat.min_eq_right (by omega), List.take_of_length_le (by omega), List.take_of_length_le (by omega)]
theorem cutV_from (xs : List V) (n : Nat) : cutV xs (some (n : Int)) none = xs.drop n := by
  unfold cutV
  rw [HT.sIx_none, HT.sIx_nat]
  by_cases h : n ≤ xs.length
  · rw [Nat.min_eq_left h]
    exact List.take_of_length_le (by rw [List.length_drop]; omega)
  · rw [Nat.min_eq_right (by omega), Nat.sub_self, List.take_zero, List.drop_eq_nil_of_le (by omega)]
theorem cutV_back (xs : List V) (n : Nat) (h0 : 0 < n) : cutV xs (some (-(n : Int))) none = xs.drop (xs.length - n) := by
  unfold cutV
  have e : HT.sIx xs.length 0 (some (-(n : Int))) = xs.length - n := by
    show (if -(n : Int) < 0 then (-(n : Int) + (xs.length : Int)).toNat else _) = _
    rw [if_pos (by omega)]
    omega
  rw [HT.sIx_none, e]
  exact List.take_of_length_le (by rw [List.length_drop]; omega)
theorem cutS_to (z : Str) (n : Nat) : cutS z none (some (n : Int)) = ofL ((cd z).take n) := by
  have hl := cd_len z
  unfold cutS
  rw [HT.sIx_none, HT.sIx_nat, List.drop_zero, Nat.sub_zero]
  show ofL ((cd z).take _) = _
  by_cases h : n ≤ z.length
  · rw [Nat.min_eq_left h]
  · rw [Nat.min_eq_right (by omega), List.take_of_length_le (by omega), List.take_of_length_le (by omega)]
theorem cutS_from (z : Str) (n : Nat) : cutS z (some (n : Int)) none = ofL ((cd z).drop n) := by
  have hl := cd_len z
  unfold cutS
  rw [HT.sIx_none, HT.sIx_nat]
  show ofL (((cd z).drop _).take _) = _
  by_cases h : n ≤ z.length
  · rw [Nat.min_eq_left h, List.take_of_length_le (by rw [List.length_drop]; omega)]
  · rw [Nat.min_eq_right (by omega), Nat.sub_self, List.take_zero, List.drop_eq_nil_of_le (by omega)]
/-- a new list, a new tuple -/
theorem Dt.newL {H : Hp} {p : Addr} {xs : List V} {ds : List D} (hp : H p = none) (h : DtA N0 H xs ds) : Dt N0 (upd H p (.lst xs)) (.ref p) (.lst ds) := .lst (fun z => z) upd_same (h.sm (Same.new hp))
theorem Dt.newT {H : Hp} {p : Addr} {xs : List V} {ds : List D} (hp : H p = none) (h : DtA N0 H xs ds) : Dt N0 (upd H p (.tup xs)) (.ref p) (.tup ds) := .tup (fun z => z) upd_same (h.sm (Same.new hp))
end U
namespace U
theorem sum_ones {α : Type} (l : List α) : (l.map fun _ => 1).sum = l.length := by
  induction l with
  | nil => rfl
  | cons a r ih =>
    rw [List.map_cons, List.sum_cons, ih, List.length_cons]
    omega
end U

/-! U10: small helpers about reading indices, comparing data, texts of the program's signs. -/
namespace U
open PySem PySem.Spec PyProof.Rows L2
theorem sql_sm {K : PySem.W.Frag} {H H' : Hp} {a : Addr} {xs : List V} (h : SqL K H a xs) (e : Same H H') : SqL K H' a xs :=
  h.elim (fun h => .inl (h.elim (fun h => .inl (e _ _ h)) fun ⟨o, h⟩ => .inr ⟨o, e _ _ h⟩)) fun h => .inr h
theorem at_int {xs : List V} {i : Int} {v : V} (h0 : 0 ≤ i) (g : xs[i.toNat]? = some v) : atI xs i = some v := by
  obtain ⟨n, rfl⟩ := Int.eq_ofNat_of_zero_le h0
  exact atI_nat g
theorem ixL {K : PySem.W.Frag} {H : Hp} {a : Addr} {xs : List V} {i : Int} {v : V} {Q : VK} (h : H a = some (.lst xs)) (g : xs[i.toNat]? = some v) (q : Q v H) (h0 : 0 ≤ i := by decide) : rIxU K (.ref a) (.int i) H Q := ⟨xs, v, .inl (SqL.of h), at_int h0 g, q⟩
theorem ixT {K : PySem.W.Frag} {H : Hp} {a : Addr} {xs : List V} {i : Int} {v : V} {Q : VK} (h : H a = some (.tup xs)) (g : xs[i.toNat]? = some v) (q : Q v H) (h0 : 0 ≤ i := by decide) : rIxU K (.ref a) (.int i) H Q := ⟨xs, v, .inr (SqT.of h), at_int h0 g, q⟩
theorem adI {H : Hp} {i j : Int} {Q : VK} (q : Q (.int (i + j)) H) : rAddU (.int i) (.int j) H Q := q
theorem strOk_of {n : Nat} {z : Str} (h : okText n z = true) : PySem.PyData.strOk z = true := by
  have h2 := (okText_iff.mp h).2
  have h3 : ∀ c ∈ U.signs, c < 0x110000 := by decide +kernel
  unfold PySem.PyData.strOk
  rw [Array.all_eq_true_iff_forall_mem]
  intro c hc
  exact decide_eq_true (h3 c (h2 c (by unfold cd; exact Array.mem_toList_iff.mpr hc)))
theorem ne_same {K : PySem.W.Frag} {H : Hp} {p q : Addr} {d : D} {e : PyData} {Q : VK} (h1 : Dt N0 H (.ref p) d) (h2 : Dt N0 H (.ref q) d) (hd : D.py d = some e) (hs : SeqAt.shaped e = true) (k : Q (.bl false) H) : rNeU K (.ref p) (.ref q) H Q := by
  refine ⟨e, e, Dt.dp d h1 hd, Dt.dp d h2 hd, hs, hs, ?_⟩
  have hc : e.canLay0 = true := (Bool.and_eq_true_iff.mp hs).1
  rw [SeqAt.eqv_refl e hc]
  exact k
end U

/-! U11: plain facts about lengths: how many signs a row leaves of n. -/
namespace U
open PySem PySem.Spec PyProof.Rows L2
theorem e_lstRg {ta : TE} {σ : L2.St} {H : Hp} {Q : VK} : tLstRg (tRg1 ta) σ H Q = ta σ H fun x H1 => ∃ n, x = .int n ∧ RgOk 0 n ∧ ∀ q, H1 q = none → Q (.ref q) (upd H1 q (.lst (rgV 0 n))) := rfl
def lenP (s : Sh) (n : Nat) : Nat := if n ≤ s.limit then n else min s.head n + s.mark.length + min s.tail n
def lenR (row : List Sh) (n : Nat) : Nat := row.foldl (fun m s => lenP s m) n
theorem cutP_length {α : Type} (f : Nat → α) (s : Sh) (xs : List α) : (cutP f s xs).length = lenP s xs.length := by
  unfold cutP lenP
  split
  · rfl
  · rw [List.length_append, List.length_append, List.length_map, cd_len, List.length_take, List.length_drop]
    omega
theorem cutR_length {α : Type} (f : Nat → α) : ∀ (row : List Sh) (xs : List α), (cutR f row xs).length = lenR row xs.length
  | [], _ => rfl
  | s :: row, xs => by
    rw [cutR_cons, cutR_length f row, cutP_length]
    rfl
theorem lenP_big {s : Sh} (h : s.ok) {n : Nat} (hn : 41 ≤ n) : lenP s n = lenP s 41 := by
  obtain ⟨h1, h2, h3, _⟩ := h
  unfold lenP
  rw [if_neg (by omega), if_neg (by omega)]
  omega
theorem lenR_big {row : List Sh} (hr : ∀ s ∈ row, s.ok) (h1 : 1 ≤ row.length) {n : Nat} (hn : 41 ≤ n) : lenR row n = lenR row 41 := by
  cases row with
  | nil => simp at h1
  | cons s row =>
    show lenR row (lenP s n) = lenR row (lenP s 41)
    rw [lenP_big (hr s List.mem_cons_self) hn]
theorem lenR_le {row : List Sh} (hr : ∀ s ∈ row, s.ok) (h1 : 1 ≤ row.length) (n : Nat) : lenR row n ≤ 83 := by
  have := cutR_length id row (List.replicate n 0)
  rw [List.length_replicate] at this
  by_cases c : 41 ≤ n
  · have e := lenR_big hr h1 c
    have z := cutR_length id row (List.replicate 41 0)
    rw [List.length_replicate] at z
    have := cutR_le id hr (List.replicate 41 0) (n := 83) (by rw [List.length_replicate]; decide) (by decide)
    omega
  · have := cutR_le id hr (List.replicate n 0) (n := 83) (by rw [List.length_replicate]; omega) (by decide)
    omega
/-- m is the greatest number of signs that the row shows -/
def isW (row : List Sh) (m : Nat) : Prop := (∃ n, n ≤ 41 ∧ lenR row n = m) ∧ ∀ n, lenR row n ≤ m
theorem isW_one {row : List Sh} {m k : Nat} (a : isW row m) (b : isW row k) : m = k := by
  obtain ⟨⟨i, _, hi⟩, h1⟩ := a
  obtain ⟨⟨j, _, hj⟩, h2⟩ := b
  have := h1 j
  have := h2 i
  omega
theorem isW_of {row : List Sh} (hr : ∀ s ∈ row, s.ok) (h1 : 1 ≤ row.length) {N : Nat} (hN : 42 ≤ N) {m : Int} (hm : m ∈ (List.range N).map fun n => (lenR row n : Int)) (hmax : ∀ y ∈ (List.range N).map fun n => (lenR row n : Int), y ≤ m) :
    ∃ k : Nat, m = k ∧ isW row k := by
  obtain ⟨n, hn, rfl⟩ := List.mem_map.mp hm
  refine ⟨lenR row n, rfl, ?_, fun i => ?_⟩
  · by_cases c : n ≤ 41
    · exact ⟨n, c, rfl⟩
    · exact ⟨41, Nat.le_refl _, (lenR_big hr h1 (by omega)).symm⟩
  · by_cases c : i ≤ 41
    · have := hmax _ (List.mem_map.mpr ⟨i, List.mem_range.mpr (by omega), rfl⟩)
      omega
    · have := hmax _ (List.mem_map.mpr ⟨41, List.mem_range.mpr (by omega), rfl⟩)
      rw [lenR_big hr h1 (show 41 ≤ i by omega)]
      omega
/-- the places 0 .. n - 1 -/
def pl (i : Nat) : D := .int (i : Nat)
def nums (n : Nat) : List D := (List.range n).map pl
theorem nums_length (n : Nat) : (nums n).length = n := by unfold nums; rw [List.length_map, List.length_range]
theorem nums_snoc (n : Nat) : nums (n + 1) = nums n ++ [pl n] := by
  unfold nums
  rw [List.range_succ, List.map_append]
  rfl
theorem dt_ints {S : Addr → Prop} {H : Hp} : ∀ l : List Nat, DtA S H (l.map fun i => V.int (0 + (i : Nat))) (l.map pl)
  | [] => .nil
  | c :: l => .cons (by show Dt S H (V.int (0 + (c : Int))) (.int (c : Int)); rw [Int.zero_add]; exact .int _) (dt_ints l)
theorem dt_rg {S : Addr → Prop} {H : Hp} (n : Nat) : DtA S H (rgV 0 n) (nums n) := by
  unfold rgV nums
  rw [show ((n : Int) - 0).toNat = n by omega]
  exact dt_ints _
theorem nums_flat (n : Nat) : ∀ d ∈ nums n, D.flat d = true := by
  intro d h
  obtain ⟨i, _, rfl⟩ := List.mem_map.mp h
  rfl
/-- a part of a plan: a place or a sign -/
def isPl (n : Nat) (d : D) : Prop := (∃ i : Nat, i < n ∧ d = pl i) ∨ ∃ c, c ∈ signs ∧ d = sgn c
theorem plan_pl {row : List Sh} (hr : ∀ s ∈ row, s.ok) (n : Nat) : ∀ d ∈ cutR sgn row (nums n), isPl n d := by
  refine cutR_all (P := isPl n) (fun s hs c hc => .inr ⟨c, (okText_iff.mp (hr s hs).2.2.2).2 c hc, rfl⟩) fun x hx => ?_
  obtain ⟨i, hi, rfl⟩ := List.mem_map.mp hx
  exact .inl ⟨i, List.mem_range.mp hi, rfl⟩
end U

/-! U12: data small enough to be compared and shown. -/
namespace U
open PySem PySem.Spec PyProof.Rows L2
structure PyOk (W k : Nat) (p : PyData) : Prop where
  lay : p.canLay0 = true
  itx : PyData.intsShort 13 p = true
  sh : PyData.showable p = true
  nd : PyData.hasDict p = false
  dep : PyData.depth p ≤ k
  wt : PyData.weight p ≤ W
structure PysOk (W k : Nat) (ps : List PyData) : Prop where
  lay : PyData.canLayAll0 ps = true
  itx : PyData.intsShortAll 13 ps = true
  sh : PyData.showableAll ps = true
  nd : PyData.hasDictAll ps = false
  dep : PyData.depthAll ps ≤ k
  wt : PyData.weightAll ps ≤ W
theorem PysOk.nil (W k : Nat) : PysOk W k [] := ⟨rfl, rfl, rfl, rfl, Nat.zero_le _, Nat.zero_le _⟩
theorem PysOk.cons {W W' k : Nat} {p : PyData} {ps : List PyData} (a : PyOk W k p) (b : PysOk W' k ps) : PysOk (W + 1 + W') k (p :: ps) := by
  obtain ⟨a1, a2, a3, a4, a5, a6⟩ := a
  obtain ⟨b1, b2, b3, b4, b5, b6⟩ := b
  refine ⟨?_, ?_, ?_, ?_, ?_, ?_⟩
  · rw [PyData.canLayAll0, a1, b1]; rfl
  · rw [PyData.intsShortAll, a2, b2]; rfl
  · rw [PyData.showableAll, a3, b3]; rfl
  · rw [PyData.hasDictAll, a4, b4]; rfl
  · rw [PyData.depthAll]; omega
  · rw [PyData.weightAll]; omega
theorem PyOk.mono {W W' k k' : Nat} {p : PyData} (a : PyOk W k p) (h : W ≤ W') (h2 : k ≤ k') : PyOk W' k' p := ⟨a.lay, a.itx, a.sh, a.nd, Nat.le_trans a.dep h2, Nat.le_trans a.wt h⟩
theorem PysOk.mono {W W' k k' : Nat} {p : List PyData} (a : PysOk W k p) (h : W ≤ W') (h2 : k ≤ k') : PysOk W' k' p := ⟨a.lay, a.itx, a.sh, a.nd, Nat.le_trans a.dep h2, Nat.le_trans a.wt h⟩
theorem PysOk.list {W k : Nat} {ps : List PyData} (a : PysOk W k ps) : PyOk W (k + 1) (.list ps) :=
  ⟨by rw [PyData.canLay0]; exact a.lay, by rw [PyData.intsShort]; exact a.itx, by rw [PyData.showable]; exact a.sh, by rw [PyData.hasDict]; exact a.nd, by rw [PyData.depth]; have := a.dep; omega, by rw [PyData.weight]; exact a.wt⟩
theorem PysOk.tuple {W k : Nat} {ps : List PyData} (a : PysOk W k ps) : PyOk W (k + 1) (.tuple ps) :=
  ⟨by rw [PyData.canLay0]; exact a.lay, by rw [PyData.intsShort]; exact a.itx, by rw [PyData.showable]; exact a.sh, by rw [PyData.hasDict]; exact a.nd, by rw [PyData.depth]; have := a.dep; omega, by rw [PyData.weight]; exact a.wt⟩
theorem PyOk.int {i : Int} (h : i.natAbs < 10 ^ 12) : PyOk 40 0 (.int i) := by
  refine ⟨rfl, ?_, ?_, rfl, by rw [PyData.depth]; exact Nat.le_refl _, ?_⟩
  · rw [PyData.intsShort]
    exact decide_eq_true (PyData.shown_int_le h)
  · rw [PyData.showable]
    refine decide_eq_true ?_
    have : i.natAbs.log2 ≤ 40 := by
      by_cases z : i.natAbs = 0
      · rw [z]; decide
      · exact Nat.le_of_lt_succ ((Nat.log2_lt z).mpr (Nat.lt_of_lt_of_le h (by decide)))
    omega
  · rw [PyData.weight]
    split
    · omega
    · have : i.natAbs.log2 < 40 := by
        by_cases z : i.natAbs = 0
        · rw [z]; decide
        · exact (Nat.log2_lt z).mpr (Nat.lt_of_lt_of_le h (by decide))
      omega
theorem PyOk.bl (b : Bool) : PyOk 0 0 (.bool b) := ⟨rfl, rfl, rfl, rfl, by rw [PyData.depth]; exact Nat.le_refl _, by rw [PyData.weight]; exact Nat.le_refl _⟩
theorem PyOk.non : PyOk 0 0 .none := ⟨rfl, rfl, rfl, rfl, by rw [PyData.depth]; exact Nat.le_refl _, by rw [PyData.weight]; exact Nat.le_refl _⟩
theorem PyOk.str {z : Str} {n : Nat} (h : PyData.strOk z = true) (hn : z.length ≤ n) : PyOk n 0 (.str z) :=
  ⟨by rw [PyData.canLay0]; exact h, rfl, rfl, rfl, by rw [PyData.depth]; exact Nat.le_refl _, by rw [PyData.weight]; exact hn⟩
theorem PyOk.text {z : Str} {n : Nat} (h : okText n z = true) : PyOk n 0 (.str z) := .str (strOk_of h) (okText_iff.mp h).1
theorem PyOk.shaped {W k : Nat} {p : PyData} (h : PyOk W k p) (hk : k ≤ 64) : SeqAt.shaped p = true := by
  unfold SeqAt.shaped
  rw [Bool.and_eq_true]
  exact ⟨h.lay, decide_eq_true (Nat.le_trans h.dep hk)⟩
theorem PyOk.fits {W k : Nat} {p : PyData} (h : PyOk W k p) (hW : W ≤ 1048576) : (PyData.shown p).length ≤ sizeLine :=
  PyData.shown_fits (B := 13) (by decide) (by decide) (PyData.leavesShort_of_canLay0 13 p h.lay h.itx) (Nat.le_trans h.wt hW)
/-- a datum that can be compared and shown -/
def okP (W k : Nat) (d : D) : Prop := ∃ p, D.py d = some p ∧ PyOk W k p
def okPs (W k : Nat) (ds : List D) : Prop := ∃ ps, D.pys ds = some ps ∧ PysOk W k ps
theorem okPs.nil (W k : Nat) : okPs W k [] := ⟨[], by rw [D.pys], .nil _ _⟩
theorem okPs.cons {W W' k : Nat} {d : D} {ds : List D} : okP W k d → okPs W' k ds → okPs (W + 1 + W') k (d :: ds) := fun ⟨p, e, a⟩ ⟨ps, e2, b⟩ => ⟨p :: ps, by rw [D.pys, e, e2], .cons a b⟩
theorem okPs.all {W k : Nat} : ∀ {ds : List D}, (∀ d ∈ ds, okP W k d) → okPs (ds.length * (W + 1)) k ds
  | [], _ => okPs.nil _ _
  | d :: ds, h => by
    obtain ⟨ps, e, a⟩ := okPs.cons (h d List.mem_cons_self) (okPs.all fun x hx => h x (List.mem_cons_of_mem _ hx))
    refine ⟨ps, e, a.mono ?_ (Nat.le_refl _)⟩
    rw [List.length_cons, Nat.succ_mul]
    omega
theorem okPs.list {W k : Nat} {ds : List D} : okPs W k ds → okP W (k + 1) (.lst ds) := fun ⟨ps, e, a⟩ => ⟨.list ps, by rw [D.py, e]; rfl, a.list⟩
theorem okPs.tuple {W k : Nat} {ds : List D} : okPs W k ds → okP W (k + 1) (.tup ds) := fun ⟨ps, e, a⟩ => ⟨.tuple ps, by rw [D.py, e]; rfl, a.tuple⟩
theorem okP.mono {W W' k k' : Nat} {d : D} : okP W k d → W ≤ W' → k ≤ k' → okP W' k' d := fun ⟨p, e, a⟩ h h2 => ⟨p, e, a.mono h h2⟩
theorem okP.int {i : Int} (h : i.natAbs < 10 ^ 12) : okP 40 0 (.int i) := ⟨_, by rw [D.py], .int h⟩
theorem okP.text {z : Str} {n : Nat} (h : okText n z = true) : okP n 0 (.str z) := ⟨_, by rw [D.py], .text h⟩
theorem okP.sgn {c : Nat} (h : c ∈ signs) : okP 1 0 (sgn c) := by
  refine okP.text (n := 1) (z := one c) (okText_iff.mpr ⟨Nat.le_refl 1, fun x hx => ?_⟩)
  have e : x ∈ [c] := hx
  rw [List.mem_singleton.mp e]
  exact h
theorem okP.pl {i : Nat} (h : i < 10 ^ 12) : okP 40 0 (U.pl i) := okP.int (by omega)
theorem isPl.okP {n : Nat} {d : D} (h : isPl n d) (hn : n ≤ 10 ^ 12) : okP 40 0 d := by
  rcases h with ⟨i, hi, rfl⟩ | ⟨c, hc, rfl⟩
  · exact okP.pl (by omega)
  · exact (okP.sgn hc).mono (by decide) (Nat.le_refl _)
/-- == and != of two objects that stand for the same datum -/
theorem ne_sameP {K : PySem.W.Frag} {H : Hp} {p q : Addr} {d : D} {W k : Nat} {Q : VK} (h1 : Dt N0 H (.ref p) d) (h2 : Dt N0 H (.ref q) d) (hd : okP W k d) (hk : k ≤ 64) (c : Q (.bl false) H) : rNeU K (.ref p) (.ref q) H Q := by
  obtain ⟨e, he, ho⟩ := hd
  exact ne_same h1 h2 he (ho.shaped hk) c
theorem eq_sameP {K : PySem.W.Frag} {H : Hp} {p q : Addr} {d : D} {W k : Nat} {Q : VK} (h1 : Dt N0 H (.ref p) d) (h2 : Dt N0 H (.ref q) d) (hd : okP W k d) (hk : k ≤ 64) (c : Q (.bl true) H) : rEqU K (.ref p) (.ref q) H Q := by
  obtain ⟨e, he, ho⟩ := hd
  have hs := ho.shaped hk
  refine ⟨e, e, Dt.dp d h1 he, Dt.dp d h2 he, hs, hs, ?_⟩
  rw [SeqAt.eqv_refl e ho.lay]
  exact c
theorem ne_strs {K : PySem.W.Frag} {H : Hp} {x : Str} {Q : VK} (c : Q (.bl false) H) : rNeU K (.str x) (.str x) H Q :=
  ⟨rfl, by rw [decide_eq_true rfl]; exact c⟩
theorem ne_ints {K : PySem.W.Frag} {H : Hp} {x : Int} {Q : VK} (c : Q (.bl false) H) : rNeU K (.int x) (.int x) H Q :=
  ⟨rfl, by rw [decide_eq_true rfl]; exact c⟩
/-- a plan filled with a text's signs -/
def fillD (l : List Nat) : D → D
  | .int i => sgn (l.getD i.toNat 0)
  | d => d
theorem fill_nums (l : List Nat) : (nums l.length).map (fillD l) = l.map sgn := by
  unfold nums
  rw [List.map_map]
  refine List.ext_getElem? fun i => ?_
  rw [List.getElem?_map, List.getElem?_map]
  by_cases h : i < l.length
  · rw [List.getElem?_range h, List.getElem?_eq_getElem h]
    show some (sgn (l.getD ((i : Int).toNat) 0)) = some (sgn l[i])
    rw [Int.toNat_natCast, List.getD_eq_getElem?_getD, List.getElem?_eq_getElem h]
    rfl
  · rw [List.getElem?_eq_none (by rw [List.length_range]; omega), List.getElem?_eq_none (by omega)]
    rfl
theorem fill_plan (row : List Sh) (l : List Nat) : (cutR sgn row (nums l.length)).map (fillD l) = (showC row l).map sgn := by
  rw [← cutR_sgn, ← fill_nums, ← cutR_map sgn (fillD l)]
  rfl
/-- repr of such a datum -/
theorem repr_of {K : PySem.W.Frag} {H : Hp} {v : V} {d : D} {W k : Nat} {Q : VK} (h1 : Dt N0 H v d) (hd : okP W k d) (hk : k ≤ 40) (hW : W ≤ 1048576) (c : ∀ p, D.py d = some p → Q (.str (PyData.shown p)) H) : rRepr K [v] H Q := by
  obtain ⟨p, e, ho⟩ := hd
  exact ⟨v, p, rfl, Dt.dp d h1 e, ho.sh, ho.nd, Nat.le_trans ho.dep hk, ho.fits hW, c p e⟩
end U

namespace G
open PySem PySem.Spec PyProof.Rows L2 U
def top (i : Nat) : Stmt := PySem.Challenge.pw_shownshort_k04_whole_plans_and_widths.main.body.getD i (.Pass ⟨0, 0, 0, 0⟩)
abbrev s_InvalidNumber___init__ : Stmt := inClass (top 2) 0
abbrev lv_InvalidNumber___init__ : Nat := 1
abbrev n_InvalidNumber___init__ : List Str := ["self", "value"]
abbrev p_InvalidNumber___init__ : List Str := ["self", "value"]
theorem sc_InvalidNumber___init__ : FnScope n_InvalidNumber___init__ p_InvalidNumber___init__ (L2.defScope s_InvalidNumber___init__) := ⟨rfl, rfl, rfl, by decide +kernel, rfl, by decide +kernel, by decide +kernel⟩
abbrev s_InvalidMark___init__ : Stmt := inClass (top 3) 0
abbrev lv_InvalidMark___init__ : Nat := 1
abbrev n_InvalidMark___init__ : List Str := ["self", "value"]
abbrev p_InvalidMark___init__ : List Str := ["self", "value"]
theorem sc_InvalidMark___init__ : FnScope n_InvalidMark___init__ p_InvalidMark___init__ (L2.defScope s_InvalidMark___init__) := ⟨rfl, rfl, rfl, by decide +kernel, rfl, by decide +kernel, by decide +kernel⟩
abbrev s_InvalidText___init__ : Stmt := inClass (top 4) 0
abbrev lv_InvalidText___init__ : Nat := 1
abbrev n_InvalidText___init__ : List Str := ["self", "value"]
abbrev p_InvalidText___init__ : List Str := ["self", "value"]
theorem sc_InvalidText___init__ : FnScope n_InvalidText___init__ p_InvalidText___init__ (L2.defScope s_InvalidText___init__) := ⟨rfl, rfl, rfl, by decide +kernel, rfl, by decide +kernel, by decide +kernel⟩
abbrev s_InvalidLength___init__ : Stmt := inClass (top 5) 0
abbrev lv_InvalidLength___init__ : Nat := 1
abbrev n_InvalidLength___init__ : List Str := ["self", "value"]
abbrev p_InvalidLength___init__ : List Str := ["self", "value"]
theorem sc_InvalidLength___init__ : FnScope n_InvalidLength___init__ p_InvalidLength___init__ (L2.defScope s_InvalidLength___init__) := ⟨rfl, rfl, rfl, by decide +kernel, rfl, by decide +kernel, by decide +kernel⟩
abbrev s_InvalidRow___init__ : Stmt := inClass (top 6) 0
abbrev lv_InvalidRow___init__ : Nat := 1
abbrev n_InvalidRow___init__ : List Str := ["self", "index"]
abbrev p_InvalidRow___init__ : List Str := ["self", "index"]
theorem sc_InvalidRow___init__ : FnScope n_InvalidRow___init__ p_InvalidRow___init__ (L2.defScope s_InvalidRow___init__) := ⟨rfl, rfl, rfl, by decide +kernel, rfl, by decide +kernel, by decide +kernel⟩
abbrev s_is_integer : Stmt := top 14
abbrev lv_is_integer : Nat := 1
abbrev n_is_integer : List Str := ["value"]
abbrev p_is_integer : List Str := ["value"]
theorem sc_is_integer : FnScope n_is_integer p_is_integer (L2.defScope s_is_integer) := ⟨rfl, rfl, rfl, by decide +kernel, rfl, by decide +kernel, by decide +kernel⟩
abbrev s_is_text : Stmt := top 15
abbrev lv_is_text : Nat := 1
abbrev n_is_text : List Str := ["value", "most", "sign"]
abbrev p_is_text : List Str := ["value", "most"]
theorem sc_is_text : FnScope n_is_text p_is_text (L2.defScope s_is_text) := ⟨rfl, rfl, rfl, by decide +kernel, rfl, by decide +kernel, by decide +kernel⟩
abbrev s_check_text : Stmt := top 16
abbrev lv_check_text : Nat := 3
abbrev n_check_text : List Str := ["value"]
abbrev p_check_text : List Str := ["value"]
theorem sc_check_text : FnScope n_check_text p_check_text (L2.defScope s_check_text) := ⟨rfl, rfl, rfl, by decide +kernel, rfl, by decide +kernel, by decide +kernel⟩
abbrev s_is_length : Stmt := top 17
abbrev lv_is_length : Nat := 2
abbrev n_is_length : List Str := ["value"]
abbrev p_is_length : List Str := ["value"]
theorem sc_is_length : FnScope n_is_length p_is_length (L2.defScope s_is_length) := ⟨rfl, rfl, rfl, by decide +kernel, rfl, by decide +kernel, by decide +kernel⟩
abbrev s_check_length : Stmt := top 18
abbrev lv_check_length : Nat := 3
abbrev n_check_length : List Str := ["value"]
abbrev p_check_length : List Str := ["value"]
theorem sc_check_length : FnScope n_check_length p_check_length (L2.defScope s_check_length) := ⟨rfl, rfl, rfl, by decide +kernel, rfl, by decide +kernel, by decide +kernel⟩
abbrev s_check_number : Stmt := top 20
abbrev lv_check_number : Nat := 3
abbrev n_check_number : List Str := ["value"]
abbrev p_check_number : List Str := ["value"]
theorem sc_check_number : FnScope n_check_number p_check_number (L2.defScope s_check_number) := ⟨rfl, rfl, rfl, by decide +kernel, rfl, by decide +kernel, by decide +kernel⟩
abbrev s_Shortener___init__ : Stmt := inClass (top 21) 0
abbrev lv_Shortener___init__ : Nat := 4
abbrev n_Shortener___init__ : List Str := ["self", "limit", "head", "tail", "mark"]
abbrev p_Shortener___init__ : List Str := ["self", "limit", "head", "tail", "mark"]
theorem sc_Shortener___init__ : FnScope n_Shortener___init__ p_Shortener___init__ (L2.defScope s_Shortener___init__) := ⟨rfl, rfl, rfl, by decide +kernel, rfl, by decide +kernel, by decide +kernel⟩
abbrev s_Shortener_cut : Stmt := inClass (top 21) 1
abbrev lv_Shortener_cut : Nat := 1
abbrev n_Shortener_cut : List Str := ["self", "signs"]
abbrev p_Shortener_cut : List Str := ["self", "signs"]
theorem sc_Shortener_cut : FnScope n_Shortener_cut p_Shortener_cut (L2.defScope s_Shortener_cut) := ⟨rfl, rfl, rfl, by decide +kernel, rfl, by decide +kernel, by decide +kernel⟩
abbrev s_Shortener___eq__ : Stmt := inClass (top 21) 2
abbrev lv_Shortener___eq__ : Nat := 6
abbrev n_Shortener___eq__ : List Str := ["self", "other"]
abbrev p_Shortener___eq__ : List Str := ["self", "other"]
theorem sc_Shortener___eq__ : FnScope n_Shortener___eq__ p_Shortener___eq__ (L2.defScope s_Shortener___eq__) := ⟨rfl, rfl, rfl, by decide +kernel, rfl, by decide +kernel, by decide +kernel⟩
abbrev s_Shortener___repr__ : Stmt := inClass (top 21) 3
abbrev lv_Shortener___repr__ : Nat := 1
abbrev n_Shortener___repr__ : List Str := ["self"]
abbrev p_Shortener___repr__ : List Str := ["self"]
theorem sc_Shortener___repr__ : FnScope n_Shortener___repr__ p_Shortener___repr__ (L2.defScope s_Shortener___repr__) := ⟨rfl, rfl, rfl, by decide +kernel, rfl, by decide +kernel, by decide +kernel⟩
abbrev s_check_row : Stmt := top 22
abbrev lv_check_row : Nat := 6
abbrev n_check_row : List Str := ["value", "index", "shortener"]
abbrev p_check_row : List Str := ["value"]
theorem sc_check_row : FnScope n_check_row p_check_row (L2.defScope s_check_row) := ⟨rfl, rfl, rfl, by decide +kernel, rfl, by decide +kernel, by decide +kernel⟩
abbrev s_cut_by : Stmt := top 23
abbrev lv_cut_by : Nat := 2
abbrev n_cut_by : List Str := ["row", "signs", "shortener"]
abbrev p_cut_by : List Str := ["row", "signs"]
theorem sc_cut_by : FnScope n_cut_by p_cut_by (L2.defScope s_cut_by) := ⟨rfl, rfl, rfl, by decide +kernel, rfl, by decide +kernel, by decide +kernel⟩
abbrev s_plan_of : Stmt := top 24
abbrev lv_plan_of : Nat := 3
abbrev n_plan_of : List Str := ["row", "length"]
abbrev p_plan_of : List Str := ["row", "length"]
theorem sc_plan_of : FnScope n_plan_of p_plan_of (L2.defScope s_plan_of) := ⟨rfl, rfl, rfl, by decide +kernel, rfl, by decide +kernel, by decide +kernel⟩
abbrev s_show : Stmt := top 25
abbrev lv_show : Nat := 7
abbrev n_show : List Str := ["row", "text"]
abbrev p_show : List Str := ["row", "text"]
theorem sc_show : FnScope n_show p_show (L2.defScope s_show) := ⟨rfl, rfl, rfl, by decide +kernel, rfl, by decide +kernel, by decide +kernel⟩
abbrev s_plan : Stmt := top 26
abbrev lv_plan : Nat := 7
abbrev n_plan : List Str := ["row", "length"]
abbrev p_plan : List Str := ["row", "length"]
theorem sc_plan : FnScope n_plan p_plan (L2.defScope s_plan) := ⟨rfl, rfl, rfl, by decide +kernel, rfl, by decide +kernel, by decide +kernel⟩
abbrev s_widest : Stmt := top 27
abbrev lv_widest : Nat := 7
abbrev n_widest : List Str := ["row", "length"]
abbrev p_widest : List Str := ["row"]
theorem sc_widest : FnScope n_widest p_widest (L2.defScope s_widest) := ⟨rfl, rfl, rfl, by decide +kernel, rfl, by decide +kernel, by decide +kernel⟩
abbrev s__law_pot : Stmt := top 29
abbrev lv__law_pot : Nat := 1
abbrev n__law_pot : List Str := ["_law_script", "_law_k", "_law_own", "_law_mixed", "_law_entry"]
abbrev p__law_pot : List Str := ["_law_script", "_law_k"]
theorem sc__law_pot : FnScope n__law_pot p__law_pot (L2.defScope s__law_pot) := ⟨rfl, rfl, rfl, by decide +kernel, rfl, by decide +kernel, by decide +kernel⟩
abbrev s__law_ladle : Stmt := top 30
abbrev lv__law_ladle : Nat := 1
abbrev n__law_ladle : List Str := ["_law_pot_here", "_law_many", "_law_digit"]
abbrev p__law_ladle : List Str := ["_law_pot_here", "_law_many"]
theorem sc__law_ladle : FnScope n__law_ladle p__law_ladle (L2.defScope s__law_ladle) := ⟨rfl, rfl, rfl, by decide +kernel, rfl, by decide +kernel, by decide +kernel⟩
abbrev s__law_one_of : Stmt := top 31
abbrev lv__law_one_of : Nat := 2
abbrev n__law_one_of : List Str := ["_law_pot_here", "_law_some"]
abbrev p__law_one_of : List Str := ["_law_pot_here", "_law_some"]
theorem sc__law_one_of : FnScope n__law_one_of p__law_one_of (L2.defScope s__law_one_of) := ⟨rfl, rfl, rfl, by decide +kernel, rfl, by decide +kernel, by decide +kernel⟩
abbrev s__law_told : Stmt := top 32
abbrev lv__law_told : Nat := 3
abbrev n__law_told : List Str := ["_law_pot_here", "_law_sign", "_law_way", "_law_bound", "_law_low", "_law_high"]
abbrev p__law_told : List Str := ["_law_pot_here"]
theorem sc__law_told : FnScope n__law_told p__law_told (L2.defScope s__law_told) := ⟨rfl, rfl, rfl, by decide +kernel, rfl, by decide +kernel, by decide +kernel⟩
abbrev s__law_tolds : Stmt := top 33
abbrev lv__law_tolds : Nat := 4
abbrev n__law_tolds : List Str := ["_law_pot_here", "_law_k"]
abbrev p__law_tolds : List Str := ["_law_pot_here"]
theorem sc__law_tolds : FnScope n__law_tolds p__law_tolds (L2.defScope s__law_tolds) := ⟨rfl, rfl, rfl, by decide +kernel, rfl, by decide +kernel, by decide +kernel⟩
abbrev s__law_made : Stmt := top 34
abbrev lv__law_made : Nat := 6
abbrev n__law_made : List Str := ["_law_tolds_here", "_law_a", "_law_b", "_law_c", "_law_d"]
abbrev p__law_made : List Str := ["_law_tolds_here"]
theorem sc__law_made : FnScope n__law_made p__law_made (L2.defScope s__law_made) := ⟨rfl, rfl, rfl, by decide +kernel, rfl, by decide +kernel, by decide +kernel⟩
abbrev s__law_cut : Stmt := top 35
abbrev lv__law_cut : Nat := 1
abbrev n__law_cut : List Str := ["_law_tolds_here", "_law_things", "_law_bound", "_law_low", "_law_high", "_law_sign", "_law_front", "_law_back", "_law_each"]
abbrev p__law_cut : List Str := ["_law_tolds_here", "_law_things"]
theorem sc__law_cut : FnScope n__law_cut p__law_cut (L2.defScope s__law_cut) := ⟨rfl, rfl, rfl, by decide +kernel, rfl, by decide +kernel, by decide +kernel⟩
abbrev s__law_line : Stmt := top 36
abbrev lv__law_line : Nat := 3
abbrev n__law_line : List Str := ["_law_pot_here", "_law_many", "_law_signs_here", "_law_k"]
abbrev p__law_line : List Str := ["_law_pot_here", "_law_many"]
theorem sc__law_line : FnScope n__law_line p__law_line (L2.defScope s__law_line) := ⟨rfl, rfl, rfl, by decide +kernel, rfl, by decide +kernel, by decide +kernel⟩
abbrev s__law_right : Stmt := top 37
abbrev lv__law_right : Nat := 8
abbrev n__law_right : List Str := ["_law_pot_here", "_law_again", "_law_tolds_here", "_law_made_here", "_law_lengths_here", "_law_many", "_law_turn", "_law_due", "_law_line_here", "_law_at"]
abbrev p__law_right : List Str := ["_law_pot_here"]
theorem sc__law_right : FnScope n__law_right p__law_right (L2.defScope s__law_right) := ⟨rfl, rfl, rfl, by decide +kernel, rfl, by decide +kernel, by decide +kernel⟩
abbrev s_law : Stmt := top 38
abbrev lv_law : Nat := 9
abbrev n_law : List Str := ["_law_script", "_law_k"]
abbrev p_law : List Str := ["_law_script"]
theorem sc_law : FnScope n_law p_law (L2.defScope s_law) := ⟨rfl, rfl, rfl, by decide +kernel, rfl, by decide +kernel, by decide +kernel⟩
structure Tx (K : PySem.W.Frag) (mg : Str → Option Value) where
  n_abs : mg "abs" = none
  n_all : mg "all" = none
  n_bool : mg "bool" = none
  n_divmod : mg "divmod" = none
  n_enumerate : mg "enumerate" = none
  n_int : mg "int" = none
  n_isinstance : mg "isinstance" = none
  n_len : mg "len" = none
  n_list : mg "list" = none
  n_max : mg "max" = none
  n_min : mg "min" = none
  n_range : mg "range" = none
  n_repr : mg "repr" = none
  n_str : mg "str" = none
  n_tuple : mg "tuple" = none
  k_MOST_SIGNS : ∃ u, mg "MOST_SIGNS" = some u ∧ RelV (.int 40) u
  k_MOST_MARK : ∃ u, mg "MOST_MARK" = some u ∧ RelV (.int 3) u
  k_MOST_ROW : ∃ u, mg "MOST_ROW" = some u ∧ RelV (.int 4) u
  k_MOST_TEXT : ∃ u, mg "MOST_TEXT" = some u ∧ RelV (.int 200) u
  k_MOST_LENGTH : ∃ u, mg "MOST_LENGTH" = some u ∧ RelV (.int 500) u
  k_SIGNS : ∃ u, mg "SIGNS" = some u ∧ RelV (.str (PySem.Str.ofString ".0123456789abcdefghijklmnopqrstuvwxyz~")) u
  C_Shortener : Addr
  m_Shortener : mg "Shortener" = some (.ref C_Shortener)
  c_Shortener : Cls K C_Shortener
  i_Shortener : C8.InsC K C_Shortener
  na_Shortener_limit : NoAttr K C_Shortener "limit"
  na_Shortener_head : NoAttr K C_Shortener "head"
  na_Shortener_tail : NoAttr K C_Shortener "tail"
  na_Shortener_mark : NoAttr K C_Shortener "mark"
  na_Shortener_told : NoAttr K C_Shortener "told"
  f_Shortener___init__ : Addr
  d_Shortener___init__ : FuncData
  F_Shortener___init__ : L2.Fun K "__init__" "Shortener.__init__" s_Shortener___init__ f_Shortener___init__ d_Shortener___init__
  b_Shortener___init__ : Binds K d_Shortener___init__ p_Shortener___init__ []
  M_Shortener : Mk K C_Shortener f_Shortener___init__
  f_Shortener_cut : Addr
  d_Shortener_cut : FuncData
  F_Shortener_cut : L2.Fun K "cut" "Shortener.cut" s_Shortener_cut f_Shortener_cut d_Shortener_cut
  b_Shortener_cut : Binds K d_Shortener_cut p_Shortener_cut []
  t_Shortener_cut : Meth K C_Shortener "cut" f_Shortener_cut
  f_Shortener___eq__ : Addr
  d_Shortener___eq__ : FuncData
  F_Shortener___eq__ : L2.Fun K "__eq__" "Shortener.__eq__" s_Shortener___eq__ f_Shortener___eq__ d_Shortener___eq__
  b_Shortener___eq__ : Binds K d_Shortener___eq__ p_Shortener___eq__ []
  t_Shortener___eq__ : Meth K C_Shortener "__eq__" f_Shortener___eq__
  f_Shortener___repr__ : Addr
  d_Shortener___repr__ : FuncData
  F_Shortener___repr__ : L2.Fun K "__repr__" "Shortener.__repr__" s_Shortener___repr__ f_Shortener___repr__ d_Shortener___repr__
  b_Shortener___repr__ : Binds K d_Shortener___repr__ p_Shortener___repr__ []
  t_Shortener___repr__ : Meth K C_Shortener "__repr__" f_Shortener___repr__
  f_is_integer : Addr
  d_is_integer : FuncData
  F_is_integer : L2.Fun K "is_integer" "is_integer" s_is_integer f_is_integer d_is_integer
  b_is_integer : Binds K d_is_integer p_is_integer []
  m_is_integer : mg "is_integer" = some (.ref f_is_integer)
  f_is_text : Addr
  d_is_text : FuncData
  F_is_text : L2.Fun K "is_text" "is_text" s_is_text f_is_text d_is_text
  b_is_text : Binds K d_is_text p_is_text []
  m_is_text : mg "is_text" = some (.ref f_is_text)
  f_check_text : Addr
  d_check_text : FuncData
  F_check_text : L2.Fun K "check_text" "check_text" s_check_text f_check_text d_check_text
  b_check_text : Binds K d_check_text p_check_text []
  m_check_text : mg "check_text" = some (.ref f_check_text)
  f_is_length : Addr
  d_is_length : FuncData
  F_is_length : L2.Fun K "is_length" "is_length" s_is_length f_is_length d_is_length
  b_is_length : Binds K d_is_length p_is_length []
  m_is_length : mg "is_length" = some (.ref f_is_length)
  f_check_length : Addr
  d_check_length : FuncData
  F_check_length : L2.Fun K "check_length" "check_length" s_check_length f_check_length d_check_length
  b_check_length : Binds K d_check_length p_check_length []
  m_check_length : mg "check_length" = some (.ref f_check_length)
  f_check_number : Addr
  d_check_number : FuncData
  F_check_number : L2.Fun K "check_number" "check_number" s_check_number f_check_number d_check_number
  b_check_number : Binds K d_check_number p_check_number []
  m_check_number : mg "check_number" = some (.ref f_check_number)
  f_check_row : Addr
  d_check_row : FuncData
  F_check_row : L2.Fun K "check_row" "check_row" s_check_row f_check_row d_check_row
  b_check_row : Binds K d_check_row p_check_row []
  m_check_row : mg "check_row" = some (.ref f_check_row)
  f_cut_by : Addr
  d_cut_by : FuncData
  F_cut_by : L2.Fun K "cut_by" "cut_by" s_cut_by f_cut_by d_cut_by
  b_cut_by : Binds K d_cut_by p_cut_by []
  m_cut_by : mg "cut_by" = some (.ref f_cut_by)
  f_plan_of : Addr
  d_plan_of : FuncData
  F_plan_of : L2.Fun K "plan_of" "plan_of" s_plan_of f_plan_of d_plan_of
  b_plan_of : Binds K d_plan_of p_plan_of []
  m_plan_of : mg "plan_of" = some (.ref f_plan_of)
  f_show : Addr
  d_show : FuncData
  F_show : L2.Fun K "show" "show" s_show f_show d_show
  b_show : Binds K d_show p_show []
  m_show : mg "show" = some (.ref f_show)
  f_plan : Addr
  d_plan : FuncData
  F_plan : L2.Fun K "plan" "plan" s_plan f_plan d_plan
  b_plan : Binds K d_plan p_plan []
  m_plan : mg "plan" = some (.ref f_plan)
  kb_plan_1_0 : KBn K d_plan p_plan 0 ["length", "row"] (fun us ws => us ++ pk1_0 ws) (fun us ws => us ++ pk1_0 ws)
  f_widest : Addr
  d_widest : FuncData
  F_widest : L2.Fun K "widest" "widest" s_widest f_widest d_widest
  b_widest : Binds K d_widest p_widest []
  m_widest : mg "widest" = some (.ref f_widest)
  kb_widest_0 : KBn K d_widest p_widest 0 ["row"] (fun us ws => us ++ pk0 ws) (fun us ws => us ++ pk0 ws)
  f__law_pot : Addr
  d__law_pot : FuncData
  F__law_pot : L2.Fun K "_law_pot" "_law_pot" s__law_pot f__law_pot d__law_pot
  b__law_pot : Binds K d__law_pot p__law_pot []
  m__law_pot : mg "_law_pot" = some (.ref f__law_pot)
  f__law_ladle : Addr
  d__law_ladle : FuncData
  F__law_ladle : L2.Fun K "_law_ladle" "_law_ladle" s__law_ladle f__law_ladle d__law_ladle
  b__law_ladle : Binds K d__law_ladle p__law_ladle []
  m__law_ladle : mg "_law_ladle" = some (.ref f__law_ladle)
  f__law_one_of : Addr
  d__law_one_of : FuncData
  F__law_one_of : L2.Fun K "_law_one_of" "_law_one_of" s__law_one_of f__law_one_of d__law_one_of
  b__law_one_of : Binds K d__law_one_of p__law_one_of []
  m__law_one_of : mg "_law_one_of" = some (.ref f__law_one_of)
  f__law_told : Addr
  d__law_told : FuncData
  F__law_told : L2.Fun K "_law_told" "_law_told" s__law_told f__law_told d__law_told
  b__law_told : Binds K d__law_told p__law_told []
  m__law_told : mg "_law_told" = some (.ref f__law_told)
  f__law_tolds : Addr
  d__law_tolds : FuncData
  F__law_tolds : L2.Fun K "_law_tolds" "_law_tolds" s__law_tolds f__law_tolds d__law_tolds
  b__law_tolds : Binds K d__law_tolds p__law_tolds []
  m__law_tolds : mg "_law_tolds" = some (.ref f__law_tolds)
  f__law_made : Addr
  d__law_made : FuncData
  F__law_made : L2.Fun K "_law_made" "_law_made" s__law_made f__law_made d__law_made
  b__law_made : Binds K d__law_made p__law_made []
  m__law_made : mg "_law_made" = some (.ref f__law_made)
  f__law_cut : Addr
  d__law_cut : FuncData
  F__law_cut : L2.Fun K "_law_cut" "_law_cut" s__law_cut f__law_cut d__law_cut
  b__law_cut : Binds K d__law_cut p__law_cut []
  m__law_cut : mg "_law_cut" = some (.ref f__law_cut)
  f__law_line : Addr
  d__law_line : FuncData
  F__law_line : L2.Fun K "_law_line" "_law_line" s__law_line f__law_line d__law_line
  b__law_line : Binds K d__law_line p__law_line []
  m__law_line : mg "_law_line" = some (.ref f__law_line)
  f__law_right : Addr
  d__law_right : FuncData
  F__law_right : L2.Fun K "_law_right" "_law_right" s__law_right f__law_right d__law_right
  b__law_right : Binds K d__law_right p__law_right []
  m__law_right : mg "_law_right" = some (.ref f__law_right)
  f_law : Addr
  d_law : FuncData
  F_law : L2.Fun K "law" "law" s_law f_law d_law
  b_law : Binds K d_law p_law []
  m_law : mg "law" = some (.ref f_law)
set_option maxHeartbeats 16000000 in
theorem all_mk {K : PySem.W.Frag} {h : Heap} {mg : Str → Option Value} (X : K.In h) (G : h.Ns mainGlobals mg)
    {f_law : Addr} {oc_law kV_law dc_law pm_law cd_law ct_law : Value} {od_law an_law : Option Addr} {sl_law : Array (Option Value)}
    {f__law_right : Addr} {oc__law_right kV__law_right dc__law_right pm__law_right cd__law_right ct__law_right : Value} {od__law_right an__law_right : Option Addr} {sl__law_right : Array (Option Value)}
    {f__law_line : Addr} {oc__law_line kV__law_line dc__law_line pm__law_line cd__law_line ct__law_line : Value} {od__law_line an__law_line : Option Addr} {sl__law_line : Array (Option Value)}
    {f__law_cut : Addr} {oc__law_cut kV__law_cut dc__law_cut pm__law_cut cd__law_cut ct__law_cut : Value} {od__law_cut an__law_cut : Option Addr} {sl__law_cut : Array (Option Value)}
    {f__law_made : Addr} {oc__law_made kV__law_made dc__law_made pm__law_made cd__law_made ct__law_made : Value} {od__law_made an__law_made : Option Addr} {sl__law_made : Array (Option Value)}
    {f__law_tolds : Addr} {oc__law_tolds kV__law_tolds dc__law_tolds pm__law_tolds cd__law_tolds ct__law_tolds : Value} {od__law_tolds an__law_tolds : Option Addr} {sl__law_tolds : Array (Option Value)}
    {f__law_told : Addr} {oc__law_told kV__law_told dc__law_told pm__law_told cd__law_told ct__law_told : Value} {od__law_told an__law_told : Option Addr} {sl__law_told : Array (Option Value)}
    {f__law_one_of : Addr} {oc__law_one_of kV__law_one_of dc__law_one_of pm__law_one_of cd__law_one_of ct__law_one_of : Value} {od__law_one_of an__law_one_of : Option Addr} {sl__law_one_of : Array (Option Value)}
    {f__law_ladle : Addr} {oc__law_ladle kV__law_ladle dc__law_ladle pm__law_ladle cd__law_ladle ct__law_ladle : Value} {od__law_ladle an__law_ladle : Option Addr} {sl__law_ladle : Array (Option Value)}
    {f__law_pot : Addr} {oc__law_pot kV__law_pot dc__law_pot pm__law_pot cd__law_pot ct__law_pot : Value} {od__law_pot an__law_pot : Option Addr} {sl__law_pot : Array (Option Value)}
    {f_widest : Addr} {oc_widest kV_widest dc_widest pm_widest cd_widest ct_widest : Value} {od_widest an_widest : Option Addr} {sl_widest : Array (Option Value)}
    {f_plan : Addr} {oc_plan kV_plan dc_plan pm_plan cd_plan ct_plan : Value} {od_plan an_plan : Option Addr} {sl_plan : Array (Option Value)}
    {f_show : Addr} {oc_show kV_show dc_show pm_show cd_show ct_show : Value} {od_show an_show : Option Addr} {sl_show : Array (Option Value)}
    {f_plan_of : Addr} {oc_plan_of kV_plan_of dc_plan_of pm_plan_of cd_plan_of ct_plan_of : Value} {od_plan_of an_plan_of : Option Addr} {sl_plan_of : Array (Option Value)}
    {f_cut_by : Addr} {oc_cut_by kV_cut_by dc_cut_by pm_cut_by cd_cut_by ct_cut_by : Value} {od_cut_by an_cut_by : Option Addr} {sl_cut_by : Array (Option Value)}
    {f_check_row : Addr} {oc_check_row kV_check_row dc_check_row pm_check_row cd_check_row ct_check_row : Value} {od_check_row an_check_row : Option Addr} {sl_check_row : Array (Option Value)}
    {f_check_number : Addr} {oc_check_number kV_check_number dc_check_number pm_check_number cd_check_number ct_check_number : Value} {od_check_number an_check_number : Option Addr} {sl_check_number : Array (Option Value)}
    {f_check_length : Addr} {oc_check_length kV_check_length dc_check_length pm_check_length cd_check_length ct_check_length : Value} {od_check_length an_check_length : Option Addr} {sl_check_length : Array (Option Value)}
    {f_is_length : Addr} {oc_is_length kV_is_length dc_is_length pm_is_length cd_is_length ct_is_length : Value} {od_is_length an_is_length : Option Addr} {sl_is_length : Array (Option Value)}
    {f_check_text : Addr} {oc_check_text kV_check_text dc_check_text pm_check_text cd_check_text ct_check_text : Value} {od_check_text an_check_text : Option Addr} {sl_check_text : Array (Option Value)}
    {f_is_text : Addr} {oc_is_text kV_is_text dc_is_text pm_is_text cd_is_text ct_is_text : Value} {od_is_text an_is_text : Option Addr} {sl_is_text : Array (Option Value)}
    {f_is_integer : Addr} {oc_is_integer kV_is_integer dc_is_integer pm_is_integer cd_is_integer ct_is_integer : Value} {od_is_integer an_is_integer : Option Addr} {sl_is_integer : Array (Option Value)}
    {f_Shortener___repr__ : Addr} {oc_Shortener___repr__ kV_Shortener___repr__ dc_Shortener___repr__ pm_Shortener___repr__ cd_Shortener___repr__ ct_Shortener___repr__ : Value} {od_Shortener___repr__ an_Shortener___repr__ : Option Addr} {sl_Shortener___repr__ : Array (Option Value)}
    {f_Shortener___eq__ : Addr} {oc_Shortener___eq__ kV_Shortener___eq__ dc_Shortener___eq__ pm_Shortener___eq__ cd_Shortener___eq__ ct_Shortener___eq__ : Value} {od_Shortener___eq__ an_Shortener___eq__ : Option Addr} {sl_Shortener___eq__ : Array (Option Value)}
    {f_Shortener_cut : Addr} {oc_Shortener_cut kV_Shortener_cut dc_Shortener_cut pm_Shortener_cut cd_Shortener_cut ct_Shortener_cut : Value} {od_Shortener_cut an_Shortener_cut : Option Addr} {sl_Shortener_cut : Array (Option Value)}
    {f_Shortener___init__ : Addr} {oc_Shortener___init__ kV_Shortener___init__ dc_Shortener___init__ pm_Shortener___init__ cd_Shortener___init__ ct_Shortener___init__ : Value} {od_Shortener___init__ an_Shortener___init__ : Option Addr} {sl_Shortener___init__ : Array (Option Value)}
    {C_Shortener : Addr}
    {tk_SIGNS : Tok}
    {tk_MOST_LENGTH : Tok}
    {tk_MOST_TEXT : Tok}
    {tk_MOST_ROW : Tok}
    {tk_MOST_MARK : Tok}
    {tk_MOST_SIGNS : Tok}
    (x_n_abs : PySem.W.nsIn K mainGlobals "abs" = some none)
    (x_n_all : PySem.W.nsIn K mainGlobals "all" = some none)
    (x_n_bool : PySem.W.nsIn K mainGlobals "bool" = some none)
    (x_n_divmod : PySem.W.nsIn K mainGlobals "divmod" = some none)
    (x_n_enumerate : PySem.W.nsIn K mainGlobals "enumerate" = some none)
    (x_n_int : PySem.W.nsIn K mainGlobals "int" = some none)
    (x_n_isinstance : PySem.W.nsIn K mainGlobals "isinstance" = some none)
    (x_n_len : PySem.W.nsIn K mainGlobals "len" = some none)
    (x_n_list : PySem.W.nsIn K mainGlobals "list" = some none)
    (x_n_max : PySem.W.nsIn K mainGlobals "max" = some none)
    (x_n_min : PySem.W.nsIn K mainGlobals "min" = some none)
    (x_n_range : PySem.W.nsIn K mainGlobals "range" = some none)
    (x_n_repr : PySem.W.nsIn K mainGlobals "repr" = some none)
    (x_n_str : PySem.W.nsIn K mainGlobals "str" = some none)
    (x_n_tuple : PySem.W.nsIn K mainGlobals "tuple" = some none)
    (x_k_MOST_SIGNS : PySem.W.nsIn K mainGlobals "MOST_SIGNS" = some (some (.int 40 tk_MOST_SIGNS)))
    (x_k_MOST_MARK : PySem.W.nsIn K mainGlobals "MOST_MARK" = some (some (.int 3 tk_MOST_MARK)))
    (x_k_MOST_ROW : PySem.W.nsIn K mainGlobals "MOST_ROW" = some (some (.int 4 tk_MOST_ROW)))
    (x_k_MOST_TEXT : PySem.W.nsIn K mainGlobals "MOST_TEXT" = some (some (.int 200 tk_MOST_TEXT)))
    (x_k_MOST_LENGTH : PySem.W.nsIn K mainGlobals "MOST_LENGTH" = some (some (.int 500 tk_MOST_LENGTH)))
    (x_k_SIGNS : PySem.W.nsIn K mainGlobals "SIGNS" = some (some (.str (PySem.Str.ofString ".0123456789abcdefghijklmnopqrstuvwxyz~") tk_SIGNS)))
    (x_C_Shortener : PySem.W.nsIn K mainGlobals "Shortener" = some (some (.ref C_Shortener)))
    (x_pg_Shortener : PySem.W.plainGet K C_Shortener Str.empty = true)
    (x_hd_Shortener : PySem.W.hasDictIn K C_Shortener = true)
    (x_po_Shortener : PySem.W.plainOver K C_Shortener = true)
    (x_sa_Shortener : PySem.W.findIn K (.ref C_Shortener) "__setattr__" = some (some (.builtin "object.__setattr__")))
    (x_mk_Shortener : PySem.W.makesIn K C_Shortener = true)
    (x_kc_Shortener : PySem.W.keepIn K (.ref C_Shortener) = true)
    (x_ha_Shortener : PySem.W.findIn K (.ref C_Shortener) "__class__" = some (some (.builtin "object.__class__")))
    (x_hn_Shortener : PySem.W.specialIn K (.builtin "object.__class__") "__get__" = some (some (.builtin "getset_descriptor.__get__")))
    (x_ht_Shortener : PySem.W.takesIn K (.builtin "object.__class__") = some true)
    (x_hm_Shortener : PySem.W.mroIn K C_Shortener (.type "object") = some true)
    (x_me_Shortener : PySem.W.kitOne K (.ref C_Shortener) (.ref C_Shortener) = some true)
    (x_na_Shortener_limit : PySem.W.findIn K (.ref C_Shortener) "limit" = some none)
    (x_na_Shortener_head : PySem.W.findIn K (.ref C_Shortener) "head" = some none)
    (x_na_Shortener_tail : PySem.W.findIn K (.ref C_Shortener) "tail" = some none)
    (x_na_Shortener_mark : PySem.W.findIn K (.ref C_Shortener) "mark" = some none)
    (x_na_Shortener_told : PySem.W.findIn K (.ref C_Shortener) "told" = some none)
    (x_a_Shortener___init__ : PySem.W.findIn K (.ref C_Shortener) "__init__" = some (some (.ref f_Shortener___init__)))
    (x_i_Shortener___init__ : PySem.W.isFn K (.ref f_Shortener___init__) = true)
    (x_l_Shortener___init__ : K.lookup f_Shortener___init__ = some ⟨oc_Shortener___init__, od_Shortener___init__, .func (PySem.W.fnOf "__init__" "Shortener.__init__" (L2.defArgs s_Shortener___init__) (L2.defBody s_Shortener___init__) (L2.defScope s_Shortener___init__) .none kV_Shortener___init__ dc_Shortener___init__ pm_Shortener___init__ an_Shortener___init__ cd_Shortener___init__ ct_Shortener___init__), sl_Shortener___init__⟩)
    (x_c_Shortener___init__ : PySem.W.codeIn K cd_Shortener___init__ "Shortener.__init__" = true)
    (x_k_Shortener___init__ : PySem.W.keepIn K (.ref f_Shortener___init__) = true)
    (x_a_Shortener_cut : PySem.W.findIn K (.ref C_Shortener) "cut" = some (some (.ref f_Shortener_cut)))
    (x_i_Shortener_cut : PySem.W.isFn K (.ref f_Shortener_cut) = true)
    (x_l_Shortener_cut : K.lookup f_Shortener_cut = some ⟨oc_Shortener_cut, od_Shortener_cut, .func (PySem.W.fnOf "cut" "Shortener.cut" (L2.defArgs s_Shortener_cut) (L2.defBody s_Shortener_cut) (L2.defScope s_Shortener_cut) .none kV_Shortener_cut dc_Shortener_cut pm_Shortener_cut an_Shortener_cut cd_Shortener_cut ct_Shortener_cut), sl_Shortener_cut⟩)
    (x_c_Shortener_cut : PySem.W.codeIn K cd_Shortener_cut "Shortener.cut" = true)
    (x_k_Shortener_cut : PySem.W.keepIn K (.ref f_Shortener_cut) = true)
    (x_a_Shortener___eq__ : PySem.W.findIn K (.ref C_Shortener) "__eq__" = some (some (.ref f_Shortener___eq__)))
    (x_i_Shortener___eq__ : PySem.W.isFn K (.ref f_Shortener___eq__) = true)
    (x_l_Shortener___eq__ : K.lookup f_Shortener___eq__ = some ⟨oc_Shortener___eq__, od_Shortener___eq__, .func (PySem.W.fnOf "__eq__" "Shortener.__eq__" (L2.defArgs s_Shortener___eq__) (L2.defBody s_Shortener___eq__) (L2.defScope s_Shortener___eq__) .none kV_Shortener___eq__ dc_Shortener___eq__ pm_Shortener___eq__ an_Shortener___eq__ cd_Shortener___eq__ ct_Shortener___eq__), sl_Shortener___eq__⟩)
    (x_c_Shortener___eq__ : PySem.W.codeIn K cd_Shortener___eq__ "Shortener.__eq__" = true)
    (x_k_Shortener___eq__ : PySem.W.keepIn K (.ref f_Shortener___eq__) = true)
    (x_a_Shortener___repr__ : PySem.W.findIn K (.ref C_Shortener) "__repr__" = some (some (.ref f_Shortener___repr__)))
    (x_i_Shortener___repr__ : PySem.W.isFn K (.ref f_Shortener___repr__) = true)
    (x_l_Shortener___repr__ : K.lookup f_Shortener___repr__ = some ⟨oc_Shortener___repr__, od_Shortener___repr__, .func (PySem.W.fnOf "__repr__" "Shortener.__repr__" (L2.defArgs s_Shortener___repr__) (L2.defBody s_Shortener___repr__) (L2.defScope s_Shortener___repr__) .none kV_Shortener___repr__ dc_Shortener___repr__ pm_Shortener___repr__ an_Shortener___repr__ cd_Shortener___repr__ ct_Shortener___repr__), sl_Shortener___repr__⟩)
    (x_c_Shortener___repr__ : PySem.W.codeIn K cd_Shortener___repr__ "Shortener.__repr__" = true)
    (x_k_Shortener___repr__ : PySem.W.keepIn K (.ref f_Shortener___repr__) = true)
    (x_a_is_integer : PySem.W.nsIn K mainGlobals "is_integer" = some (some (.ref f_is_integer)))
    (x_l_is_integer : K.lookup f_is_integer = some ⟨oc_is_integer, od_is_integer, .func (PySem.W.fnOf "is_integer" "is_integer" (L2.defArgs s_is_integer) (L2.defBody s_is_integer) (L2.defScope s_is_integer) .none kV_is_integer dc_is_integer pm_is_integer an_is_integer cd_is_integer ct_is_integer), sl_is_integer⟩)
    (x_c_is_integer : PySem.W.codeIn K cd_is_integer "is_integer" = true)
    (x_k_is_integer : PySem.W.keepIn K (.ref f_is_integer) = true)
    (x_a_is_text : PySem.W.nsIn K mainGlobals "is_text" = some (some (.ref f_is_text)))
    (x_l_is_text : K.lookup f_is_text = some ⟨oc_is_text, od_is_text, .func (PySem.W.fnOf "is_text" "is_text" (L2.defArgs s_is_text) (L2.defBody s_is_text) (L2.defScope s_is_text) .none kV_is_text dc_is_text pm_is_text an_is_text cd_is_text ct_is_text), sl_is_text⟩)
    (x_c_is_text : PySem.W.codeIn K cd_is_text "is_text" = true)
    (x_k_is_text : PySem.W.keepIn K (.ref f_is_text) = true)
    (x_a_check_text : PySem.W.nsIn K mainGlobals "check_text" = some (some (.ref f_check_text)))
    (x_l_check_text : K.lookup f_check_text = some ⟨oc_check_text, od_check_text, .func (PySem.W.fnOf "check_text" "check_text" (L2.defArgs s_check_text) (L2.defBody s_check_text) (L2.defScope s_check_text) .none kV_check_text dc_check_text pm_check_text an_check_text cd_check_text ct_check_text), sl_check_text⟩)
    (x_c_check_text : PySem.W.codeIn K cd_check_text "check_text" = true)
    (x_k_check_text : PySem.W.keepIn K (.ref f_check_text) = true)
    (x_a_is_length : PySem.W.nsIn K mainGlobals "is_length" = some (some (.ref f_is_length)))
    (x_l_is_length : K.lookup f_is_length = some ⟨oc_is_length, od_is_length, .func (PySem.W.fnOf "is_length" "is_length" (L2.defArgs s_is_length) (L2.defBody s_is_length) (L2.defScope s_is_length) .none kV_is_length dc_is_length pm_is_length an_is_length cd_is_length ct_is_length), sl_is_length⟩)
    (x_c_is_length : PySem.W.codeIn K cd_is_length "is_length" = true)
    (x_k_is_length : PySem.W.keepIn K (.ref f_is_length) = true)
    (x_a_check_length : PySem.W.nsIn K mainGlobals "check_length" = some (some (.ref f_check_length)))
    (x_l_check_length : K.lookup f_check_length = some ⟨oc_check_length, od_check_length, .func (PySem.W.fnOf "check_length" "check_length" (L2.defArgs s_check_length) (L2.defBody s_check_length) (L2.defScope s_check_length) .none kV_check_length dc_check_length pm_check_length an_check_length cd_check_length ct_check_length), sl_check_length⟩)
    (x_c_check_length : PySem.W.codeIn K cd_check_length "check_length" = true)
    (x_k_check_length : PySem.W.keepIn K (.ref f_check_length) = true)
    (x_a_check_number : PySem.W.nsIn K mainGlobals "check_number" = some (some (.ref f_check_number)))
    (x_l_check_number : K.lookup f_check_number = some ⟨oc_check_number, od_check_number, .func (PySem.W.fnOf "check_number" "check_number" (L2.defArgs s_check_number) (L2.defBody s_check_number) (L2.defScope s_check_number) .none kV_check_number dc_check_number pm_check_number an_check_number cd_check_number ct_check_number), sl_check_number⟩)
    (x_c_check_number : PySem.W.codeIn K cd_check_number "check_number" = true)
    (x_k_check_number : PySem.W.keepIn K (.ref f_check_number) = true)
    (x_a_check_row : PySem.W.nsIn K mainGlobals "check_row" = some (some (.ref f_check_row)))
    (x_l_check_row : K.lookup f_check_row = some ⟨oc_check_row, od_check_row, .func (PySem.W.fnOf "check_row" "check_row" (L2.defArgs s_check_row) (L2.defBody s_check_row) (L2.defScope s_check_row) .none kV_check_row dc_check_row pm_check_row an_check_row cd_check_row ct_check_row), sl_check_row⟩)
    (x_c_check_row : PySem.W.codeIn K cd_check_row "check_row" = true)
    (x_k_check_row : PySem.W.keepIn K (.ref f_check_row) = true)
    (x_a_cut_by : PySem.W.nsIn K mainGlobals "cut_by" = some (some (.ref f_cut_by)))
    (x_l_cut_by : K.lookup f_cut_by = some ⟨oc_cut_by, od_cut_by, .func (PySem.W.fnOf "cut_by" "cut_by" (L2.defArgs s_cut_by) (L2.defBody s_cut_by) (L2.defScope s_cut_by) .none kV_cut_by dc_cut_by pm_cut_by an_cut_by cd_cut_by ct_cut_by), sl_cut_by⟩)
    (x_c_cut_by : PySem.W.codeIn K cd_cut_by "cut_by" = true)
    (x_k_cut_by : PySem.W.keepIn K (.ref f_cut_by) = true)
    (x_a_plan_of : PySem.W.nsIn K mainGlobals "plan_of" = some (some (.ref f_plan_of)))
    (x_l_plan_of : K.lookup f_plan_of = some ⟨oc_plan_of, od_plan_of, .func (PySem.W.fnOf "plan_of" "plan_of" (L2.defArgs s_plan_of) (L2.defBody s_plan_of) (L2.defScope s_plan_of) .none kV_plan_of dc_plan_of pm_plan_of an_plan_of cd_plan_of ct_plan_of), sl_plan_of⟩)
    (x_c_plan_of : PySem.W.codeIn K cd_plan_of "plan_of" = true)
    (x_k_plan_of : PySem.W.keepIn K (.ref f_plan_of) = true)
    (x_a_show : PySem.W.nsIn K mainGlobals "show" = some (some (.ref f_show)))
    (x_l_show : K.lookup f_show = some ⟨oc_show, od_show, .func (PySem.W.fnOf "show" "show" (L2.defArgs s_show) (L2.defBody s_show) (L2.defScope s_show) .none kV_show dc_show pm_show an_show cd_show ct_show), sl_show⟩)
    (x_c_show : PySem.W.codeIn K cd_show "show" = true)
    (x_k_show : PySem.W.keepIn K (.ref f_show) = true)
    (x_a_plan : PySem.W.nsIn K mainGlobals "plan" = some (some (.ref f_plan)))
    (x_l_plan : K.lookup f_plan = some ⟨oc_plan, od_plan, .func (PySem.W.fnOf "plan" "plan" (L2.defArgs s_plan) (L2.defBody s_plan) (L2.defScope s_plan) .none kV_plan dc_plan pm_plan an_plan cd_plan ct_plan), sl_plan⟩)
    (x_c_plan : PySem.W.codeIn K cd_plan "plan" = true)
    (x_k_plan : PySem.W.keepIn K (.ref f_plan) = true)
    (x_a_widest : PySem.W.nsIn K mainGlobals "widest" = some (some (.ref f_widest)))
    (x_l_widest : K.lookup f_widest = some ⟨oc_widest, od_widest, .func (PySem.W.fnOf "widest" "widest" (L2.defArgs s_widest) (L2.defBody s_widest) (L2.defScope s_widest) .none kV_widest dc_widest pm_widest an_widest cd_widest ct_widest), sl_widest⟩)
    (x_c_widest : PySem.W.codeIn K cd_widest "widest" = true)
    (x_k_widest : PySem.W.keepIn K (.ref f_widest) = true)
    (x_a__law_pot : PySem.W.nsIn K mainGlobals "_law_pot" = some (some (.ref f__law_pot)))
    (x_l__law_pot : K.lookup f__law_pot = some ⟨oc__law_pot, od__law_pot, .func (PySem.W.fnOf "_law_pot" "_law_pot" (L2.defArgs s__law_pot) (L2.defBody s__law_pot) (L2.defScope s__law_pot) .none kV__law_pot dc__law_pot pm__law_pot an__law_pot cd__law_pot ct__law_pot), sl__law_pot⟩)
    (x_c__law_pot : PySem.W.codeIn K cd__law_pot "_law_pot" = true)
    (x_k__law_pot : PySem.W.keepIn K (.ref f__law_pot) = true)
    (x_a__law_ladle : PySem.W.nsIn K mainGlobals "_law_ladle" = some (some (.ref f__law_ladle)))
    (x_l__law_ladle : K.lookup f__law_ladle = some ⟨oc__law_ladle, od__law_ladle, .func (PySem.W.fnOf "_law_ladle" "_law_ladle" (L2.defArgs s__law_ladle) (L2.defBody s__law_ladle) (L2.defScope s__law_ladle) .none kV__law_ladle dc__law_ladle pm__law_ladle an__law_ladle cd__law_ladle ct__law_ladle), sl__law_ladle⟩)
    (x_c__law_ladle : PySem.W.codeIn K cd__law_ladle "_law_ladle" = true)
    (x_k__law_ladle : PySem.W.keepIn K (.ref f__law_ladle) = true)
    (x_a__law_one_of : PySem.W.nsIn K mainGlobals "_law_one_of" = some (some (.ref f__law_one_of)))
    (x_l__law_one_of : K.lookup f__law_one_of = some ⟨oc__law_one_of, od__law_one_of, .func (PySem.W.fnOf "_law_one_of" "_law_one_of" (L2.defArgs s__law_one_of) (L2.defBody s__law_one_of) (L2.defScope s__law_one_of) .none kV__law_one_of dc__law_one_of pm__law_one_of an__law_one_of cd__law_one_of ct__law_one_of), sl__law_one_of⟩)
    (x_c__law_one_of : PySem.W.codeIn K cd__law_one_of "_law_one_of" = true)
    (x_k__law_one_of : PySem.W.keepIn K (.ref f__law_one_of) = true)
    (x_a__law_told : PySem.W.nsIn K mainGlobals "_law_told" = some (some (.ref f__law_told)))
    (x_l__law_told : K.lookup f__law_told = some ⟨oc__law_told, od__law_told, .func (PySem.W.fnOf "_law_told" "_law_told" (L2.defArgs s__law_told) (L2.defBody s__law_told) (L2.defScope s__law_told) .none kV__law_told dc__law_told pm__law_told an__law_told cd__law_told ct__law_told), sl__law_told⟩)
    (x_c__law_told : PySem.W.codeIn K cd__law_told "_law_told" = true)
    (x_k__law_told : PySem.W.keepIn K (.ref f__law_told) = true)
    (x_a__law_tolds : PySem.W.nsIn K mainGlobals "_law_tolds" = some (some (.ref f__law_tolds)))
    (x_l__law_tolds : K.lookup f__law_tolds = some ⟨oc__law_tolds, od__law_tolds, .func (PySem.W.fnOf "_law_tolds" "_law_tolds" (L2.defArgs s__law_tolds) (L2.defBody s__law_tolds) (L2.defScope s__law_tolds) .none kV__law_tolds dc__law_tolds pm__law_tolds an__law_tolds cd__law_tolds ct__law_tolds), sl__law_tolds⟩)
    (x_c__law_tolds : PySem.W.codeIn K cd__law_tolds "_law_tolds" = true)
    (x_k__law_tolds : PySem.W.keepIn K (.ref f__law_tolds) = true)
    (x_a__law_made : PySem.W.nsIn K mainGlobals "_law_made" = some (some (.ref f__law_made)))
    (x_l__law_made : K.lookup f__law_made = some ⟨oc__law_made, od__law_made, .func (PySem.W.fnOf "_law_made" "_law_made" (L2.defArgs s__law_made) (L2.defBody s__law_made) (L2.defScope s__law_made) .none kV__law_made dc__law_made pm__law_made an__law_made cd__law_made ct__law_made), sl__law_made⟩)
    (x_c__law_made : PySem.W.codeIn K cd__law_made "_law_made" = true)
    (x_k__law_made : PySem.W.keepIn K (.ref f__law_made) = true)
    (x_a__law_cut : PySem.W.nsIn K mainGlobals "_law_cut" = some (some (.ref f__law_cut)))
    (x_l__law_cut : K.lookup f__law_cut = some ⟨oc__law_cut, od__law_cut, .func (PySem.W.fnOf "_law_cut" "_law_cut" (L2.defArgs s__law_cut) (L2.defBody s__law_cut) (L2.defScope s__law_cut) .none kV__law_cut dc__law_cut pm__law_cut an__law_cut cd__law_cut ct__law_cut), sl__law_cut⟩)
    (x_c__law_cut : PySem.W.codeIn K cd__law_cut "_law_cut" = true)
    (x_k__law_cut : PySem.W.keepIn K (.ref f__law_cut) = true)
    (x_a__law_line : PySem.W.nsIn K mainGlobals "_law_line" = some (some (.ref f__law_line)))
    (x_l__law_line : K.lookup f__law_line = some ⟨oc__law_line, od__law_line, .func (PySem.W.fnOf "_law_line" "_law_line" (L2.defArgs s__law_line) (L2.defBody s__law_line) (L2.defScope s__law_line) .none kV__law_line dc__law_line pm__law_line an__law_line cd__law_line ct__law_line), sl__law_line⟩)
    (x_c__law_line : PySem.W.codeIn K cd__law_line "_law_line" = true)
    (x_k__law_line : PySem.W.keepIn K (.ref f__law_line) = true)
    (x_a__law_right : PySem.W.nsIn K mainGlobals "_law_right" = some (some (.ref f__law_right)))
    (x_l__law_right : K.lookup f__law_right = some ⟨oc__law_right, od__law_right, .func (PySem.W.fnOf "_law_right" "_law_right" (L2.defArgs s__law_right) (L2.defBody s__law_right) (L2.defScope s__law_right) .none kV__law_right dc__law_right pm__law_right an__law_right cd__law_right ct__law_right), sl__law_right⟩)
    (x_c__law_right : PySem.W.codeIn K cd__law_right "_law_right" = true)
    (x_k__law_right : PySem.W.keepIn K (.ref f__law_right) = true)
    (x_a_law : PySem.W.nsIn K mainGlobals "law" = some (some (.ref f_law)))
    (x_l_law : K.lookup f_law = some ⟨oc_law, od_law, .func (PySem.W.fnOf "law" "law" (L2.defArgs s_law) (L2.defBody s_law) (L2.defScope s_law) .none kV_law dc_law pm_law an_law cd_law ct_law), sl_law⟩)
    (x_c_law : PySem.W.codeIn K cd_law "law" = true)
    (x_k_law : PySem.W.keepIn K (.ref f_law) = true) : ∃ T : Tx K mg, T.f_law = f_law := by
  exact ⟨⟨PySem.W.mg_none_of X G x_n_abs,
    PySem.W.mg_none_of X G x_n_all,
    PySem.W.mg_none_of X G x_n_bool,
    PySem.W.mg_none_of X G x_n_divmod,
    PySem.W.mg_none_of X G x_n_enumerate,
    PySem.W.mg_none_of X G x_n_int,
    PySem.W.mg_none_of X G x_n_isinstance,
    PySem.W.mg_none_of X G x_n_len,
    PySem.W.mg_none_of X G x_n_list,
    PySem.W.mg_none_of X G x_n_max,
    PySem.W.mg_none_of X G x_n_min,
    PySem.W.mg_none_of X G x_n_range,
    PySem.W.mg_none_of X G x_n_repr,
    PySem.W.mg_none_of X G x_n_str,
    PySem.W.mg_none_of X G x_n_tuple,
    ⟨_, PySem.W.mg_of X G x_k_MOST_SIGNS, _, rfl⟩,
    ⟨_, PySem.W.mg_of X G x_k_MOST_MARK, _, rfl⟩,
    ⟨_, PySem.W.mg_of X G x_k_MOST_ROW, _, rfl⟩,
    ⟨_, PySem.W.mg_of X G x_k_MOST_TEXT, _, rfl⟩,
    ⟨_, PySem.W.mg_of X G x_k_MOST_LENGTH, _, rfl⟩,
    ⟨_, PySem.W.mg_of X G x_k_SIGNS, _, rfl⟩,
    C_Shortener,
    PySem.W.mg_of X G x_C_Shortener,
    ⟨x_pg_Shortener, x_hd_Shortener, x_po_Shortener, x_sa_Shortener⟩,
    ⟨⟨x_pg_Shortener, x_hd_Shortener, x_po_Shortener, x_sa_Shortener⟩, x_ha_Shortener, x_hn_Shortener, x_ht_Shortener, x_hm_Shortener, x_me_Shortener⟩,
    x_na_Shortener_limit,
    x_na_Shortener_head,
    x_na_Shortener_tail,
    x_na_Shortener_mark,
    x_na_Shortener_told,
    f_Shortener___init__,
    _,
    (fun_mk (st := s_Shortener___init__) x_l_Shortener___init__ x_c_Shortener___init__ x_k_Shortener___init__),
    (fun_mk (st := s_Shortener___init__) x_l_Shortener___init__ x_c_Shortener___init__ x_k_Shortener___init__).binds (ps := p_Shortener___init__) fun _ _ _ _ _ _ us hl => match us, hl with | [_, _, _, _, _], _ => rfl,
    ⟨x_mk_Shortener, x_a_Shortener___init__, x_i_Shortener___init__, x_kc_Shortener⟩,
    f_Shortener_cut,
    _,
    (fun_mk (st := s_Shortener_cut) x_l_Shortener_cut x_c_Shortener_cut x_k_Shortener_cut),
    (fun_mk (st := s_Shortener_cut) x_l_Shortener_cut x_c_Shortener_cut x_k_Shortener_cut).binds (ps := p_Shortener_cut) fun _ _ _ _ _ _ us hl => match us, hl with | [_, _], _ => rfl,
    ⟨x_a_Shortener_cut, x_i_Shortener_cut, x_k_Shortener_cut⟩,
    f_Shortener___eq__,
    _,
    (fun_mk (st := s_Shortener___eq__) x_l_Shortener___eq__ x_c_Shortener___eq__ x_k_Shortener___eq__),
    (fun_mk (st := s_Shortener___eq__) x_l_Shortener___eq__ x_c_Shortener___eq__ x_k_Shortener___eq__).binds (ps := p_Shortener___eq__) fun _ _ _ _ _ _ us hl => match us, hl with | [_, _], _ => rfl,
    ⟨x_a_Shortener___eq__, x_i_Shortener___eq__, x_k_Shortener___eq__⟩,
    f_Shortener___repr__,
    _,
    (fun_mk (st := s_Shortener___repr__) x_l_Shortener___repr__ x_c_Shortener___repr__ x_k_Shortener___repr__),
    (fun_mk (st := s_Shortener___repr__) x_l_Shortener___repr__ x_c_Shortener___repr__ x_k_Shortener___repr__).binds (ps := p_Shortener___repr__) fun _ _ _ _ _ _ us hl => match us, hl with | [_], _ => rfl,
    ⟨x_a_Shortener___repr__, x_i_Shortener___repr__, x_k_Shortener___repr__⟩,
    f_is_integer,
    _,
    (fun_mk (st := s_is_integer) x_l_is_integer x_c_is_integer x_k_is_integer),
    (fun_mk (st := s_is_integer) x_l_is_integer x_c_is_integer x_k_is_integer).binds (ps := p_is_integer) fun _ _ _ _ _ _ us hl => match us, hl with | [_], _ => rfl,
    PySem.W.mg_of X G x_a_is_integer,
    f_is_text,
    _,
    (fun_mk (st := s_is_text) x_l_is_text x_c_is_text x_k_is_text),
    (fun_mk (st := s_is_text) x_l_is_text x_c_is_text x_k_is_text).binds (ps := p_is_text) fun _ _ _ _ _ _ us hl => match us, hl with | [_, _], _ => rfl,
    PySem.W.mg_of X G x_a_is_text,
    f_check_text,
    _,
    (fun_mk (st := s_check_text) x_l_check_text x_c_check_text x_k_check_text),
    (fun_mk (st := s_check_text) x_l_check_text x_c_check_text x_k_check_text).binds (ps := p_check_text) fun _ _ _ _ _ _ us hl => match us, hl with | [_], _ => rfl,
    PySem.W.mg_of X G x_a_check_text,
    f_is_length,
    _,
    (fun_mk (st := s_is_length) x_l_is_length x_c_is_length x_k_is_length),
    (fun_mk (st := s_is_length) x_l_is_length x_c_is_length x_k_is_length).binds (ps := p_is_length) fun _ _ _ _ _ _ us hl => match us, hl with | [_], _ => rfl,
    PySem.W.mg_of X G x_a_is_length,
    f_check_length,
    _,
    (fun_mk (st := s_check_length) x_l_check_length x_c_check_length x_k_check_length),
    (fun_mk (st := s_check_length) x_l_check_length x_c_check_length x_k_check_length).binds (ps := p_check_length) fun _ _ _ _ _ _ us hl => match us, hl with | [_], _ => rfl,
    PySem.W.mg_of X G x_a_check_length,
    f_check_number,
    _,
    (fun_mk (st := s_check_number) x_l_check_number x_c_check_number x_k_check_number),
    (fun_mk (st := s_check_number) x_l_check_number x_c_check_number x_k_check_number).binds (ps := p_check_number) fun _ _ _ _ _ _ us hl => match us, hl with | [_], _ => rfl,
    PySem.W.mg_of X G x_a_check_number,
    f_check_row,
    _,
    (fun_mk (st := s_check_row) x_l_check_row x_c_check_row x_k_check_row),
    (fun_mk (st := s_check_row) x_l_check_row x_c_check_row x_k_check_row).binds (ps := p_check_row) fun _ _ _ _ _ _ us hl => match us, hl with | [_], _ => rfl,
    PySem.W.mg_of X G x_a_check_row,
    f_cut_by,
    _,
    (fun_mk (st := s_cut_by) x_l_cut_by x_c_cut_by x_k_cut_by),
    (fun_mk (st := s_cut_by) x_l_cut_by x_c_cut_by x_k_cut_by).binds (ps := p_cut_by) fun _ _ _ _ _ _ us hl => match us, hl with | [_, _], _ => rfl,
    PySem.W.mg_of X G x_a_cut_by,
    f_plan_of,
    _,
    (fun_mk (st := s_plan_of) x_l_plan_of x_c_plan_of x_k_plan_of),
    (fun_mk (st := s_plan_of) x_l_plan_of x_c_plan_of x_k_plan_of).binds (ps := p_plan_of) fun _ _ _ _ _ _ us hl => match us, hl with | [_, _], _ => rfl,
    PySem.W.mg_of X G x_a_plan_of,
    f_show,
    _,
    (fun_mk (st := s_show) x_l_show x_c_show x_k_show),
    (fun_mk (st := s_show) x_l_show x_c_show x_k_show).binds (ps := p_show) fun _ _ _ _ _ _ us hl => match us, hl with | [_, _], _ => rfl,
    PySem.W.mg_of X G x_a_show,
    f_plan,
    _,
    (fun_mk (st := s_plan) x_l_plan x_c_plan x_k_plan),
    (fun_mk (st := s_plan) x_l_plan x_c_plan x_k_plan).binds (ps := p_plan) fun _ _ _ _ _ _ us hl => match us, hl with | [_, _], _ => rfl,
    PySem.W.mg_of X G x_a_plan,
    kbn_of (fun_mk (st := s_plan) x_l_plan x_c_plan x_k_plan) rel1_0 (fun _ _ _ _ _ _ us ws h1 h2 => match us, ws, h1, h2 with | [], [_, _], _, _ => rfl),
    f_widest,
    _,
    (fun_mk (st := s_widest) x_l_widest x_c_widest x_k_widest),
    (fun_mk (st := s_widest) x_l_widest x_c_widest x_k_widest).binds (ps := p_widest) fun _ _ _ _ _ _ us hl => match us, hl with | [_], _ => rfl,
    PySem.W.mg_of X G x_a_widest,
    kbn_of (fun_mk (st := s_widest) x_l_widest x_c_widest x_k_widest) rel0 (fun _ _ _ _ _ _ us ws h1 h2 => match us, ws, h1, h2 with | [], [_], _, _ => rfl),
    f__law_pot,
    _,
    (fun_mk (st := s__law_pot) x_l__law_pot x_c__law_pot x_k__law_pot),
    (fun_mk (st := s__law_pot) x_l__law_pot x_c__law_pot x_k__law_pot).binds (ps := p__law_pot) fun _ _ _ _ _ _ us hl => match us, hl with | [_, _], _ => rfl,
    PySem.W.mg_of X G x_a__law_pot,
    f__law_ladle,
    _,
    (fun_mk (st := s__law_ladle) x_l__law_ladle x_c__law_ladle x_k__law_ladle),
    (fun_mk (st := s__law_ladle) x_l__law_ladle x_c__law_ladle x_k__law_ladle).binds (ps := p__law_ladle) fun _ _ _ _ _ _ us hl => match us, hl with | [_, _], _ => rfl,
    PySem.W.mg_of X G x_a__law_ladle,
    f__law_one_of,
    _,
    (fun_mk (st := s__law_one_of) x_l__law_one_of x_c__law_one_of x_k__law_one_of),
    (fun_mk (st := s__law_one_of) x_l__law_one_of x_c__law_one_of x_k__law_one_of).binds (ps := p__law_one_of) fun _ _ _ _ _ _ us hl => match us, hl with | [_, _], _ => rfl,
    PySem.W.mg_of X G x_a__law_one_of,
    f__law_told,
    _,
    (fun_mk (st := s__law_told) x_l__law_told x_c__law_told x_k__law_told),
    (fun_mk (st := s__law_told) x_l__law_told x_c__law_told x_k__law_told).binds (ps := p__law_told) fun _ _ _ _ _ _ us hl => match us, hl with | [_], _ => rfl,
    PySem.W.mg_of X G x_a__law_told,
    f__law_tolds,
    _,
    (fun_mk (st := s__law_tolds) x_l__law_tolds x_c__law_tolds x_k__law_tolds),
    (fun_mk (st := s__law_tolds) x_l__law_tolds x_c__law_tolds x_k__law_tolds).binds (ps := p__law_tolds) fun _ _ _ _ _ _ us hl => match us, hl with | [_], _ => rfl,
    PySem.W.mg_of X G x_a__law_tolds,
    f__law_made,
    _,
    (fun_mk (st := s__law_made) x_l__law_made x_c__law_made x_k__law_made),
    (fun_mk (st := s__law_made) x_l__law_made x_c__law_made x_k__law_made).binds (ps := p__law_made) fun _ _ _ _ _ _ us hl => match us, hl with | [_], _ => rfl,
    PySem.W.mg_of X G x_a__law_made,
    f__law_cut,
    _,
    (fun_mk (st := s__law_cut) x_l__law_cut x_c__law_cut x_k__law_cut),
    (fun_mk (st := s__law_cut) x_l__law_cut x_c__law_cut x_k__law_cut).binds (ps := p__law_cut) fun _ _ _ _ _ _ us hl => match us, hl with | [_, _], _ => rfl,
    PySem.W.mg_of X G x_a__law_cut,
    f__law_line,
    _,
    (fun_mk (st := s__law_line) x_l__law_line x_c__law_line x_k__law_line),
    (fun_mk (st := s__law_line) x_l__law_line x_c__law_line x_k__law_line).binds (ps := p__law_line) fun _ _ _ _ _ _ us hl => match us, hl with | [_, _], _ => rfl,
    PySem.W.mg_of X G x_a__law_line,
    f__law_right,
    _,
    (fun_mk (st := s__law_right) x_l__law_right x_c__law_right x_k__law_right),
    (fun_mk (st := s__law_right) x_l__law_right x_c__law_right x_k__law_right).binds (ps := p__law_right) fun _ _ _ _ _ _ us hl => match us, hl with | [_], _ => rfl,
    PySem.W.mg_of X G x_a__law_right,
    f_law,
    _,
    (fun_mk (st := s_law) x_l_law x_c_law x_k_law),
    (fun_mk (st := s_law) x_l_law x_c_law x_k_law).binds (ps := p_law) fun _ _ _ _ _ _ us hl => match us, hl with | [_], _ => rfl,
    PySem.W.mg_of X G x_a_law⟩, rfl⟩
end G

local macro_rules | `(tactic| walk_at "go") => `(tactic| simp (config := { failIfUnchanged := false, maxSteps := 2000000 }) only [U.e_var, U.e_c, U.e_op, U.e_un, U.e_nil, U.e_cons, U.e_cb, U.e_call, U.e_tup, U.e_lst, U.e_if, U.e_andV, U.e_orV, U.e_notV, U.e_chain, U.e_test, U.e_B, U.e_and, U.e_or, U.e_not, U.e_asg, U.e_name, U.e_seq, U.e_next, U.e_ret, U.e_ifS, U.e_drop, U.e_part, U.e_noPart, U.e_sl, U.e_I0, U.e_I, U.e_exbl, U.e_exint, U.e_exstr, U.e_exsome, U.e_pair, U.e_expair, U.e_m1, U.e_m0, U.e_bm, U.e_bm0, U.e_fld, U.e_sfld, U.e_then, U.e_star, U.e_yes, U.e_gcons, U.e_gnil, U.e_gtup, U.e_gsub, U.e_make, U.e_makeK, U.e_callN, U.e_meth, U.e_kTup, U.e_lcL, U.e_lcT, U.e_lcS, U.e_lcR, U.e_lcR2, U.e_forL, U.e_forT, U.e_forR, U.e_forR2, U.e_forE, U.e_lstRg, L2.wipe, eq_self,
  U.rAddU, U.rEqU, U.rNeU, U.rLtU, U.rInU, U.rNinU, U.rIxU, U.rSlU, U.rLenU, U.rInt1, U.rI1, U.rI2, L2.rU, U.rListU, L2.scal,
  L2.start, List.map_cons, List.map_nil, List.length_cons, List.length_nil, List.cons_append, List.nil_append, List.append_nil, List.getElem?_cons_zero, List.getElem?_cons_succ, List.set_cons_zero, List.set_cons_succ, Nat.reduceAdd, Nat.reduceSub, List.reduceReplicate, Nat.zero_add,
  if_true, if_false, Bool.false_eq_true, decide_eq_true_eq, Bool.not_eq_true', decide_eq_false_iff_not, Bool.not_true, Bool.not_false, L2.V.int.injEq, L2.V.str.injEq, L2.V.bl.injEq, L2.V.ref.injEq, exists_eq_left', exists_and_left, true_and, and_true, not_true_eq_false, not_false_eq_true, reduceCtorEq])
local macro_rules | `(tactic| walk_at "lz") => `(tactic| simp (config := { failIfUnchanged := false, maxSteps := 2000000 }) only [U.e_var, U.e_c, U.e_op, U.e_un, U.e_nil, U.e_cons, U.e_cb, U.e_call, U.e_tup, U.e_lst, U.e_if, U.e_andV, U.e_orV, U.e_notV, U.e_chain, U.e_test, U.e_B, U.e_and, U.e_or, U.e_not, U.e_asg, U.e_name, U.e_seq, U.e_next, U.e_ret, U.e_ifS, U.e_drop, U.e_part, U.e_noPart, U.e_sl, U.e_I0, U.e_I, U.e_exbl, U.e_exint, U.e_exstr, U.e_exsome, U.e_pair, U.e_expair, U.e_m1, U.e_m0, U.e_bm, U.e_bm0, U.e_fld, U.e_sfld, U.e_then, U.e_star, U.e_yes, U.e_gcons, U.e_gnil, U.e_gtup, U.e_gsub, U.e_make, U.e_makeK, U.e_callN, U.e_meth, U.e_kTup, U.e_lcL, U.e_lcT, U.e_lcS, U.e_lcR, U.e_lcR2, U.e_forL, U.e_forT, U.e_forR, U.e_forR2, U.e_forE, U.e_lstRg, L2.wipe, eq_self,
  U.rEqU, U.rNeU, U.rLtU, U.rInU, U.rNinU, U.rIxU, U.rSlU, U.rLenU, U.rInt1, U.rI1, U.rI2, L2.rU, U.rListU, L2.scal,
  L2.start, List.map_cons, List.map_nil, List.length_cons, List.length_nil, List.cons_append, List.nil_append, List.append_nil, List.getElem?_cons_zero, List.getElem?_cons_succ, List.set_cons_zero, List.set_cons_succ, Nat.reduceAdd, Nat.reduceSub, List.reduceReplicate, Nat.zero_add,
  if_true, if_false, Bool.false_eq_true, decide_eq_true_eq, Bool.not_eq_true', decide_eq_false_iff_not, Bool.not_true, Bool.not_false, L2.V.int.injEq, L2.V.str.injEq, L2.V.bl.injEq, L2.V.ref.injEq, exists_eq_left', exists_and_left, true_and, and_true, not_true_eq_false, not_false_eq_true, reduceCtorEq])
local macro_rules | `(tactic| walk_at "lx") => `(tactic| simp (config := { failIfUnchanged := false, maxSteps := 2000000 }) only [U.e_var, U.e_c, U.e_op, U.e_un, U.e_nil, U.e_cons, U.e_cb, U.e_call, U.e_tup, U.e_lst, U.e_if, U.e_andV, U.e_orV, U.e_notV, U.e_chain, U.e_test, U.e_B, U.e_and, U.e_or, U.e_not, U.e_asg, U.e_name, U.e_seq, U.e_next, U.e_ret, U.e_ifS, U.e_drop, U.e_part, U.e_noPart, U.e_sl, U.e_I0, U.e_I, U.e_exbl, U.e_exint, U.e_exstr, U.e_exsome, U.e_pair, U.e_expair, U.e_m1, U.e_m0, U.e_bm, U.e_bm0, U.e_fld, U.e_sfld, U.e_then, U.e_star, U.e_yes, U.e_gcons, U.e_gnil, U.e_gtup, U.e_gsub, U.e_make, U.e_makeK, U.e_callN, U.e_meth, U.e_kTup, U.e_lcL, U.e_lcT, U.e_lcS, U.e_lcR, U.e_lcR2, U.e_forL, U.e_forT, U.e_forR, U.e_forR2, U.e_forE, U.e_lstRg, L2.wipe, eq_self,
  U.rLtU, U.rInU, U.rNinU, U.rSlU, U.rLenU, U.rInt1, U.rI1, U.rI2, L2.rU, U.rListU, L2.scal,
  L2.start, List.map_cons, List.map_nil, List.length_cons, List.length_nil, List.cons_append, List.nil_append, List.append_nil, List.getElem?_cons_zero, List.getElem?_cons_succ, List.set_cons_zero, List.set_cons_succ, Nat.reduceAdd, Nat.reduceSub, List.reduceReplicate, Nat.zero_add,
  if_true, if_false, Bool.false_eq_true, decide_eq_true_eq, Bool.not_eq_true', decide_eq_false_iff_not, Bool.not_true, Bool.not_false, L2.V.int.injEq, L2.V.str.injEq, L2.V.bl.injEq, L2.V.ref.injEq, exists_eq_left', exists_and_left, true_and, and_true, not_true_eq_false, not_false_eq_true, reduceCtorEq])


namespace G
open PySem PySem.Spec PyProof.Rows L2 U
section
variable {P : Program} {w : World} {K : PySem.W.Frag} {mg : Str → Option Value} {base : Heap}
def spIsInteger (K : PySem.W.Frag) : Sp := fun vs H Q _ => ∃ (v : V) (t : String), vs = [v] ∧ TyX K H v (.type t) ∧ t ∈ ["NoneType", "bool", "int", "str", "list", "tuple", "dict"] ∧ Q (.bl (t == "int")) H
theorem ok_is_integer (T : Tx K mg) : FnOk P w K mg base L2.CX0 lv_is_integer T.f_is_integer T.d_is_integer p_is_integer (spIsInteger K) := by
  refine T.F_is_integer.ok sc_is_integer (fun vs H Q E h => ?_) (fun cdv A outer s H vs Q E hr h => ?_)
  · obtain ⟨v, t, rfl, _⟩ := h
    rfl
  · obtain ⟨v, t, rfl, ty, ht, q⟩ := h
    refine ⟨_, (pss_one (ps_ret (pe_and (pe_callB (call_isiK (K := K) rfl) (by rfl) T.n_isinstance (by decide +kernel) (pa_cons (pv 0) (pa_cons (pe_bt "int" rfl T.n_int (by decide +kernel)) pa_nil))) (pe_one (pe_not (pe_callB (call_isiK (K := K) rfl) (by rfl) T.n_isinstance (by decide +kernel) (pa_cons (pv 0) (pa_cons (pe_bt "bool" rfl T.n_bool (by decide +kernel)) pa_nil)))))))), ?_⟩
    walk_at "go"
    simp only [List.mem_cons, List.not_mem_nil, or_false] at ht
    rcases ht with rfl | rfl | rfl | rfl | rfl | rfl | rfl
    · exact ⟨_, _, _, _, false, rfl, .ty _, ty, kit_ty (by decide +kernel), _, rfl, iteF q⟩
    · exact ⟨_, _, _, _, true, rfl, .ty _, ty, kit_ty (by decide +kernel), _, rfl, iteT ⟨_, _, _, _, true, rfl, .ty _, ty, kit_ty (by decide +kernel), _, rfl, q⟩⟩
    · exact ⟨_, _, _, _, true, rfl, .ty _, ty, kit_ty (by decide +kernel), _, rfl, iteT ⟨_, _, _, _, false, rfl, .ty _, ty, kit_ty (by decide +kernel), _, rfl, q⟩⟩
    · exact ⟨_, _, _, _, false, rfl, .ty _, ty, kit_ty (by decide +kernel), _, rfl, iteF q⟩
    · exact ⟨_, _, _, _, false, rfl, .ty _, ty, kit_ty (by decide +kernel), _, rfl, iteF q⟩
    · exact ⟨_, _, _, _, false, rfl, .ty _, ty, kit_ty (by decide +kernel), _, rfl, iteF q⟩
    · exact ⟨_, _, _, _, false, rfl, .ty _, ty, kit_ty (by decide +kernel), _, rfl, iteF q⟩
/-- is_text(v, n): of a text, of anything else -/
def spIsText (K : PySem.W.Frag) : Sp := fun vs H Q _ => ∃ (v : V) (n : Nat), vs = [v, .int n] ∧
  ((∃ z, v = .str z ∧ z.length ≤ 16777216 ∧ ∀ H', Same H H' → Q (.bl (okText n z)) H') ∨ ∃ t : String, TyX K H v (.type t) ∧ t ∈ ["NoneType", "bool", "int", "list", "tuple", "dict"] ∧ Q (.bl false) H)
theorem ok_is_text (T : Tx K mg) : FnOk P w K mg base L2.CX0 lv_is_text T.f_is_text T.d_is_text p_is_text (spIsText K) := by
  refine T.F_is_text.ok sc_is_text (fun vs H Q E h => ?_) (fun cdv A outer s H vs Q E hr h => ?_)
  · obtain ⟨v, n, rfl, _⟩ := h
    rfl
  · obtain ⟨v, n, rfl, h⟩ := h
    refine ⟨_, (pss_one (ps_ret (pe_and (pe_callB (call_isiK (K := K) rfl) (by rfl) T.n_isinstance (by decide +kernel) (pa_cons (pv 0) (pa_cons (pe_bt "str" rfl T.n_str (by decide +kernel)) pa_nil))) (pe_and (pe_cmpR op_le (pe_callB (call_lenK (K := K) rfl) (by rfl) T.n_len (by decide +kernel) (pa_cons (pv 0) pa_nil)) (pv 1) (nomark _)) (pe_one (pe_callB (cr_allK (K := K) rfl rfl) (by rfl) T.n_all (by decide +kernel) (pa_cons (pe_lc (own := [("sign", 2)]) rfl sc_is_text.nd (pi_str (pv 0)) (blkOk_by (N := ["value", "most", "sign"]) (sc := L2.defScope s_is_text) (by decide +kernel)) (fun _ _ _ _ _ => (pg_name (i := 2) sc_is_text.nd rfl (by first | exact Or.inl rfl | exact Or.inr rfl))) (fun _ _ _ _ _ => pts_nil) (fun _ _ _ _ _ => (pe_cmpR (op_inK (K := K) rfl) (pv 2) (C8.pe_gc rfl T.k_SIGNS) (by rfl)))) pa_nil))))))), ?_⟩
    walk_at "go"
    rcases h with ⟨z, rfl, hz, q⟩ | ⟨t, ty, ht, q⟩
    · refine ⟨_, _, _, _, true, rfl, .ty _, .base (.str _), kit_ty (by decide +kernel), _, rfl, iteT ?_⟩
      walk_at "go"
      refine ⟨Nat.le_trans hz (by decide), ?_⟩
      refine ite2 (fun c => ?_) (fun c => ?_)
      · refine lcS hz (fun i ds => ds = ((cd z).take i).map fun c => D.bl (isSign c)) (by simp) ?_ ?_
        · rintro D0 hD i ds H' hi rfl hE x H2 ⟨rfl, c, hc, rfl⟩ Ky Kn hy hn
          walk_at "go"
          refine ⟨c, rfl, hy _ _ _ (Same.refl _) (.bl _) rfl ?_⟩
          exact take_map (fun c => D.bl (isSign c)) (cd_get hc)
        · intro D0 hD H' ds hds hl hS hdt
          subst hds
          cases hdt with
          | lst _ ha hs =>
            rw [cd_size, List.take_length] at hs
            have e : (cd z).map (fun c => D.bl (isSign c)) = ((cd z).map isSign).map D.bl := by rw [List.map_map]; rfl
            rw [e] at hs
            have e2 := hs.bls_eq
            subst e2
            refine ⟨D0, _, rfl, SqL.of ha, ?_⟩
            have e3 : ((cd z).map isSign).all id = okText n z := by
              unfold okText
              have c' : z.length ≤ n := by exact_mod_cast c
              rw [decide_eq_true c', List.all_map]
              rfl
            rw [e3]
            exact q _ hS
      · have e3 : okText n z = false := by
          unfold okText
          have c' : ¬ z.length ≤ n := fun z => c (by exact_mod_cast z)
          rw [decide_eq_false c', Bool.false_and]
        rw [← e3]
        exact q _ (Same.refl _)
    · simp only [List.mem_cons, List.not_mem_nil, or_false] at ht
      rcases ht with rfl | rfl | rfl | rfl | rfl | rfl
      · exact ⟨_, _, _, _, false, rfl, .ty _, ty, kit_ty (by decide +kernel), _, rfl, iteF q⟩
      · exact ⟨_, _, _, _, false, rfl, .ty _, ty, kit_ty (by decide +kernel), _, rfl, iteF q⟩
      · exact ⟨_, _, _, _, false, rfl, .ty _, ty, kit_ty (by decide +kernel), _, rfl, iteF q⟩
      · exact ⟨_, _, _, _, false, rfl, .ty _, ty, kit_ty (by decide +kernel), _, rfl, iteF q⟩
      · exact ⟨_, _, _, _, false, rfl, .ty _, ty, kit_ty (by decide +kernel), _, rfl, iteF q⟩
      · exact ⟨_, _, _, _, false, rfl, .ty _, ty, kit_ty (by decide +kernel), _, rfl, iteF q⟩
end
end G


namespace G
open PySem PySem.Spec PyProof.Rows L2 U
section
variable {P : Program} {w : World} {K : PySem.W.Frag} {mg : Str → Option Value} {base : Heap}
/-- a number that is let -/
def spCheckNumber : Sp := fun vs H Q _ => ∃ n : Nat, vs = [.int n] ∧ n ≤ 40 ∧ Q .non H
theorem ok_check_number (T : Tx K mg) : FnOk P w K mg base L2.CX0 lv_check_number T.f_check_number T.d_check_number p_check_number spCheckNumber := by
  refine T.F_check_number.ok sc_check_number (fun vs H Q E h => ?_) (fun cdv A outer s H vs Q E hr h => ?_)
  · obtain ⟨n, rfl, _⟩ := h
    rfl
  · obtain ⟨n, rfl, hn, q⟩ := h
    refine ⟨_, (pss_one (ps_if (PW.pt (pw_or (pt_not (pt_val (pe_call (ok_is_integer T) (hr.mono (by decide)) rfl T.m_is_integer T.F_is_integer.kp T.b_is_integer .nil pass0 (pa_cons (pv 0) pa_nil)))) (pw_or1 (pt_not (pt_chain op_le op_le pe_int (pv 0) (C8.pe_gc rfl T.k_MOST_SIGNS)))))) (pss_one ps_never) pss_nil)), ?_⟩
    walk_at "go"
    refine ⟨_, "int", rfl, .base (.int _), by simp, true, rfl, ?_⟩
    have h1 : (0 : Int) ≤ (n : Int) := by omega
    have h2 : (n : Int) ≤ 40 := by omega
    simp only [h1, h2]
    walk_at "go"
    exact q
def spCheckText : Sp := fun vs H Q _ => ∃ z : Str, vs = [.str z] ∧ okText 200 z = true ∧ ∀ H', Same H H' → Q .non H'
theorem ok_check_text (T : Tx K mg) : FnOk P w K mg base L2.CX0 lv_check_text T.f_check_text T.d_check_text p_check_text spCheckText := by
  refine T.F_check_text.ok sc_check_text (fun vs H Q E h => ?_) (fun cdv A outer s H vs Q E hr h => ?_)
  · obtain ⟨n, rfl, _⟩ := h
    rfl
  · obtain ⟨z, rfl, hz, q⟩ := h
    refine ⟨_, (pss_one (ps_if (pt_not (pt_val (pe_call (ok_is_text T) (hr.mono (by decide)) rfl T.m_is_text T.F_is_text.kp T.b_is_text .nil pass0 (pa_cons (pv 0) (pa_cons (C8.pe_gc rfl T.k_MOST_TEXT) pa_nil))))) (pss_one ps_never) pss_nil)), ?_⟩
    walk_at "go"
    have h1 := (okText_iff.mp hz).1
    refine ⟨_, 200, rfl, .inl ⟨z, rfl, by omega, fun H' hS => ?_⟩⟩
    rw [hz]
    exact ⟨true, rfl, q _ hS⟩
/-- a new shortener -/
def spSh (C : Addr) : Sp := fun vs H Q _ => ∃ (x dx : Addr) (s : Sh), vs = [.ref x, .int s.limit, .int s.head, .int s.tail, .str s.mark] ∧ s.ok ∧ H x = some (.ins C dx []) ∧ ∀ H', Ext (fun a => a = x) H H' → Dt N0 H' (.ref x) (shD C s) → Q .non H'
theorem ok_Shortener___init__ (T : Tx K mg) : FnOk P w K mg base L2.CX0 lv_Shortener___init__ T.f_Shortener___init__ T.d_Shortener___init__ p_Shortener___init__ (spSh T.C_Shortener) := by
  refine T.F_Shortener___init__.ok sc_Shortener___init__ (fun vs H Q E h => ?_) (fun cdv A outer s H vs Q E hr h => ?_)
  · obtain ⟨x, dx, sh, rfl, _⟩ := h
    rfl
  · obtain ⟨x, dx, sh, rfl, hsh, hx, q⟩ := h
    obtain ⟨o1, o2, o3, o4⟩ := hsh
    refine ⟨_, (pss_cons (ps_expr (pe_call (ok_check_number T) (hr.mono (by decide)) rfl T.m_check_number T.F_check_number.kp T.b_check_number .nil pass0 (pa_cons (pv 1) pa_nil)))
        (pss_cons (ps_expr (pe_call (ok_check_number T) (hr.mono (by decide)) rfl T.m_check_number T.F_check_number.kp T.b_check_number .nil pass0 (pa_cons (pv 2) pa_nil)))
        (pss_cons (ps_expr (pe_call (ok_check_number T) (hr.mono (by decide)) rfl T.m_check_number T.F_check_number.kp T.b_check_number .nil pass0 (pa_cons (pv 3) pa_nil)))
        (pss_cons (ps_if (pt_not (pt_val (pe_call (ok_is_text T) (hr.mono (by decide)) rfl T.m_is_text T.F_is_text.kp T.b_is_text .nil pass0 (pa_cons (pv 4) (pa_cons (C8.pe_gc rfl T.k_MOST_MARK) pa_nil))))) (pss_one ps_never) pss_nil)
        (pss_cons (ps_fld (pv 0) (pv 1) rfl)
        (pss_cons (ps_fld (pv 0) (pv 2) rfl)
        (pss_cons (ps_fld (pv 0) (pv 3) rfl)
        (pss_cons (ps_fld (pv 0) (pv 4) rfl)
        (pss_one (ps_fld (pv 0) (pe_tup (pa_cons (pv 1) (pa_cons (pv 2) (pa_cons (pv 3) (pa_cons (pv 4) pa_nil))))) rfl)))))))))), ?_⟩
    walk_at "go"
    refine ⟨sh.limit, rfl, o1, sh.head, rfl, o2, sh.tail, rfl, o3, ?_⟩
    have h1 := (okText_iff.mp o4).1
    refine ⟨_, 3, rfl, .inl ⟨sh.mark, rfl, by omega, fun H1 hS => ?_⟩⟩
    rw [o4]
    refine ⟨true, rfl, ?_⟩
    walk_at "go"
    refine ⟨_, dx, [], hS _ _ hx, T.c_Shortener, T.na_Shortener_limit, by decide, ?_⟩
    rw [sh_f1]
    refine ⟨_, dx, _, upd_same, T.c_Shortener, T.na_Shortener_head, by show 1 < 1000; decide, ?_⟩
    rw [sh_f2, upd_upd]
    refine ⟨_, dx, _, upd_same, T.c_Shortener, T.na_Shortener_tail, by show 2 < 1000; decide, ?_⟩
    rw [sh_f3, upd_upd]
    refine ⟨_, dx, _, upd_same, T.c_Shortener, T.na_Shortener_mark, by show 3 < 1000; decide, ?_⟩
    rw [sh_f4, upd_upd]
    refine ⟨by show 4 ≤ sizeLine; decide, fun p hp => ?_⟩
    have nxp : x ≠ p := ne_of_none upd_same hp
    refine ⟨_, dx, _, (by rw [upd_ne nxp]; exact upd_same), T.c_Shortener, T.na_Shortener_told, by show 4 < 1000; decide, ?_⟩
    rw [sh_f5]
    rw [upd_ne nxp.symm] at hp
    refine q _ ?_ ?_
    · refine Ext.mut (Ext.new (Ext.mut (Ext.of hS) rfl) ?_) rfl
      rw [upd_ne nxp.symm]
      exact hp
    · refine dt_sh (fun z => z) upd_same ?_
      exact .tup (fun z => z) (by rw [upd_ne nxp.symm]; exact upd_same) (.cons (.int _) (.cons (.int _) (.cons (.int _) (.cons (.str _) .nil))))
end
end G


namespace G
open PySem PySem.Spec PyProof.Rows L2 U
section
variable {P : Program} {w : World} {K : PySem.W.Frag} {mg : Str → Option Value} {base : Heap}
def spCut (C : Addr) : Sp := fun vs H Q _ => ∃ (v l : V) (s : Sh) (ds : List D), vs = [v, l] ∧ s.ok ∧ Dt N0 H v (shD C s) ∧ Dt N0 H l (.lst ds) ∧ ds.length ≤ 4000000 ∧ ∀ r H', Same H H' → Dt N0 H' r (.lst (cutP sgn s ds)) → Q r H'
theorem ok_Shortener_cut (T : Tx K mg) : FnOk P w K mg base L2.CX0 lv_Shortener_cut T.f_Shortener_cut T.d_Shortener_cut p_Shortener_cut (spCut T.C_Shortener) := by
  refine T.F_Shortener_cut.ok sc_Shortener_cut (fun vs H Q E h => ?_) (fun cdv A outer s H vs Q E hr h => ?_)
  · obtain ⟨v, l, sh, ds, rfl, _⟩ := h
    rfl
  · obtain ⟨v, l, sh, ds, rfl, hsh, hv, hl, hz, q⟩ := h
    obtain ⟨a, rfl, dx, t, _, ha, ht⟩ := shF_of hv
    obtain ⟨p, xs, rfl, _, hp, hs⟩ := dt_lst hl
    have el := hs.length
    refine ⟨_, (pss_cons (ps_if (pt_cmpR op_le (pe_callB (call_lenK (K := K) rfl) (by rfl) T.n_len (by decide +kernel) (pa_cons (pv 1) pa_nil)) (pe_fldK (K := K) rfl (pv 0)) (nomark _)) (pss_one (ps_ret (pv 1))) pss_nil)
        (pss_one (ps_ret (pe_lst (pa_starK (K := K) rfl (pe_slice (sl_K (K := K) rfl) (pv 1) po_none (po_some (pe_fldK (K := K) rfl (pv 0)))) (pa_starK (K := K) rfl (pe_callTy (call_listK (K := K) rfl rfl) (by rfl) T.n_list (by decide +kernel) (pa_cons (pe_fldK (K := K) rfl (pv 0)) pa_nil)) (pa_starK (K := K) rfl (pe_slice (sl_K (K := K) rfl) (pv 1) (po_some (pe_callB (call_maxU rfl) (by rfl) T.n_max (by decide +kernel) (pa_cons pe_int (pa_cons (pe_op op_sub (pe_callB (call_lenK (K := K) rfl) (by rfl) T.n_len (by decide +kernel) (pa_cons (pv 1) pa_nil)) (pe_fldK (K := K) rfl (pv 0))) pa_nil)))) po_none) pa_nil))))))), ?_⟩
    walk_at "go"
    refine ⟨xs, .inl (SqL.of hp), _, dx, _, ha, T.c_Shortener, T.na_Shortener_limit, _, rfl, ?_⟩
    walk_at "go"
    refine ite2 (fun c => ?_) (fun c => ?_)
    · refine q _ _ (Same.refl _) ?_
      unfold cutP
      rw [if_pos (by omega)]
      exact hl
    · refine ⟨_, dx, _, ha, T.c_Shortener, T.na_Shortener_head, _, rfl, _, rfl, _, sli_l (SqL.of hp), fun p1 np1 => ?_⟩
      rw [cutV_to]
      have s1 : Same H (upd H p1 (.lst (xs.take sh.head))) := Same.new np1
      refine ⟨_, .inr (SqL.of upd_same), _, dx, _, s1 _ _ ha, T.c_Shortener, T.na_Shortener_mark, _, rfl, ?_⟩
      walk_at "go"
      have hm := (okText_iff.mp hsh.2.2.2).1
      refine ⟨by rw [sizeLine_eq]; omega, fun p2 np2 => ?_⟩
      have s2 := Same.snew s1 (o := .lst (signsV sh.mark)) np2
      refine ⟨_, .inr (SqL.of upd_same), xs, .inl (SqL.of (s2 _ _ hp)), _, dx, _, s2 _ _ ha, T.c_Shortener, T.na_Shortener_tail, _, rfl, ?_⟩
      walk_at "go"
      have e2 : (if ((xs.length : Int) - (sh.tail : Int) > 0) then ((xs.length : Int) - (sh.tail : Int)) else 0) = ((xs.length - sh.tail : Nat) : Int) := by
        split <;> omega
      refine ⟨_, sli_l (SqL.of (s2 _ _ hp)), fun p3 np3 => ?_⟩
      rw [e2, cutV_from]
      have s3 := Same.snew s2 (o := .lst (xs.drop (xs.length - sh.tail))) np3
      refine ⟨_, .inr (SqL.of upd_same), ?_, fun p4 np4 => ?_⟩
      · rw [sizeLine_eq, List.length_append, List.length_append, List.length_take, List.length_drop]
        have : (signsV sh.mark).length = sh.mark.length := by
          unfold signsV
          rw [List.length_map]
          exact cd_len _
        omega
      · have s4 := Same.snew s3 (o := .lst (xs.take sh.head ++ (signsV sh.mark ++ xs.drop (xs.length - sh.tail)))) np4
        refine q _ _ s4 ?_
        unfold cutP
        rw [if_neg (by omega), List.append_assoc, ← el]
        refine Dt.newL np4 ?_
        refine DtA.append ((hs.take _).sm s3) (DtA.append ?_ ((hs.drop _).sm s3))
        exact dt_signsV _
/-- a row that is let -/
def spCheckRow (C : Addr) : Sp := fun vs H Q _ => ∃ (v : V) (row : List Sh), vs = [v] ∧ Dt N0 H v (rowD C row) ∧ 1 ≤ row.length ∧ row.length ≤ 4 ∧ ∀ H', Same H H' → Q .non H'
theorem ok_check_row (T : Tx K mg) : FnOk P w K mg base L2.CX0 lv_check_row T.f_check_row T.d_check_row p_check_row (spCheckRow T.C_Shortener) := by
  refine T.F_check_row.ok sc_check_row (fun vs H Q E h => ?_) (fun cdv A outer s H vs Q E hr h => ?_)
  · obtain ⟨v, row, rfl, _⟩ := h
    rfl
  · obtain ⟨v, row, rfl, hv, h1, h4, q⟩ := h
    obtain ⟨p, xs, rfl, _, hp, hs⟩ := dt_tup hv
    have el := hs.length
    rw [List.length_map] at el
    refine ⟨_, (pss_cons (ps_if (PW.pt (pw_or (pt_not (pt_val (pe_callB (call_isiK (K := K) rfl) (by rfl) T.n_isinstance (by decide +kernel) (pa_cons (pv 0) (pa_cons (pe_bt "tuple" rfl T.n_tuple (by decide +kernel)) pa_nil))))) (pw_or1 (pt_not (pt_chain op_le op_le pe_int (pe_callB (call_lenK (K := K) rfl) (by rfl) T.n_len (by decide +kernel) (pa_cons (pv 0) pa_nil)) (C8.pe_gc rfl T.k_MOST_ROW)))))) (pss_one ps_never) pss_nil)
        (pss_one (ps_for PassesOwn.never rfl (pi_enumT (K := K) rfl rfl T.n_enumerate (pa_cons (pv 0) pa_nil)) (pg_tupK (K := K) (n := 2) rfl rfl (pgs_cons (pg_name (i := 1) sc_check_row.nd rfl (by first | exact Or.inl rfl | exact Or.inr rfl)) (pgs_cons (pg_name (i := 2) sc_check_row.nd rfl (by first | exact Or.inl rfl | exact Or.inr rfl)) pgs_nil))) (pss_one (ps_if (pt_not (pt_val (pe_callB (call_isiK (K := K) rfl) (by rfl) T.n_isinstance (by decide +kernel) (pa_cons (pv 2) (pa_cons (pe_gref rfl T.m_Shortener) pa_nil))))) (pss_one ps_never) pss_nil))))), ?_⟩
    walk_at "go"
    refine ⟨_, _, _, _, true, rfl, .ty _, .base (.tup hp), kit_ty (by decide +kernel), _, rfl, ?_⟩
    walk_at "go"
    refine ⟨xs, .inr (SqT.of hp), ?_⟩
    have c1 : (1 : Int) ≤ (xs.length : Int) := by omega
    have c2 : (xs.length : Int) ≤ 4 := by omega
    walk_at "go"
    simp only [c1, c2]
    walk_at "go"
    refine forE (S := N0) hp (fun z => z) (fun i σ H' => Same H H' ∧ ∃ u v, σ = [some (.ref p), u, v]) ⟨Same.refl _, _, _, rfl⟩ (fun i σ' H' hI => Ext.of hI.1) ?_ ?_
    · rintro i y σ' H' t hy ⟨hS, u, v, rfl⟩ hT
      obtain ⟨d, hd, hdy⟩ := hs.getV hy
      rw [List.getElem?_map] at hd
      obtain ⟨sh, _, rfl⟩ := Option.map_eq_some_iff.mp hd
      obtain ⟨a, rfl, dx, t', _, ha, ht⟩ := shF_of hdy
      have s1 := Same.snew hS (o := .tup [.int (i : Nat), .ref a]) hT
      refine ⟨t, _, rfl, SqT.of upd_same, rfl, ?_⟩
      walk_at "go"
      refine ⟨_, _, _, _, true, rfl, .own _, .base (.ins (s1 _ _ ha) T.c_Shortener T.i_Shortener.ha T.i_Shortener.hn T.i_Shortener.htk T.i_Shortener.hm), T.i_Shortener.me, _, rfl, ?_⟩
      walk_at "go"
      exact ⟨s1, _, _, rfl⟩
    · rintro σ' H' ⟨hS, u, v, rfl⟩
      exact q _ hS
def spCutBy (C : Addr) : Sp := fun vs H Q _ => ∃ (v l : V) (row : List Sh) (ds : List D), vs = [v, l] ∧ (∀ s ∈ row, s.ok) ∧ Dt N0 H v (rowD C row) ∧ Dt N0 H l (.lst ds) ∧ ds.length ≤ 4000000 ∧ ∀ r H', Same H H' → Dt N0 H' r (.lst (cutR sgn row ds)) → Q r H'
theorem ok_cut_by (T : Tx K mg) : FnOk P w K mg base L2.CX0 lv_cut_by T.f_cut_by T.d_cut_by p_cut_by (spCutBy T.C_Shortener) := by
  refine T.F_cut_by.ok sc_cut_by (fun vs H Q E h => ?_) (fun cdv A outer s H vs Q E hr h => ?_)
  · obtain ⟨v, l, row, ds, rfl, _⟩ := h
    rfl
  · obtain ⟨v, l, row, ds, rfl, hrow, hv, hl, hz, q⟩ := h
    obtain ⟨p, xs, rfl, _, hp, hs⟩ := dt_tup hv
    have el := hs.length
    rw [List.length_map] at el
    refine ⟨_, (pss_cons (ps_for PassesOwn.never rfl (pi_tupK (K := K) rfl (pv 0)) (pg_name (i := 2) sc_cut_by.nd rfl (by first | exact Or.inl rfl | exact Or.inr rfl)) (pss_one (ps_set (i := 1) sc_cut_by.nd rfl (by first | exact Or.inl rfl | exact Or.inr rfl) (pe_meth (pv 2) T.c_Shortener T.t_Shortener_cut (ok_Shortener_cut T) (hr.mono (by decide)) T.b_Shortener_cut .nil pass0 (pa_cons (pv 1) pa_nil)))))
        (pss_one (ps_ret (pv 1)))), ?_⟩
    walk_at "go"
    refine forT (S := N0) hp (fun z => z) (fun i σ H' => Same H H' ∧ ∃ u l', σ = [some (.ref p), some l', u] ∧ Dt N0 H' l' (.lst (cutR sgn (row.take i) ds))) ⟨Same.refl _, _, _, rfl, hl⟩ (fun i σ' H' hI => Ext.of hI.1) ?_ ?_
    · rintro i y σ' H' hy ⟨hS, u, l', rfl, hl'⟩
      obtain ⟨d, hd, hdy⟩ := hs.getV hy
      rw [List.getElem?_map] at hd
      obtain ⟨sh, hsh, rfl⟩ := Option.map_eq_some_iff.mp hd
      have hmem : sh ∈ row := List.mem_of_getElem? hsh
      have hdy' := hdy.sm hS
      obtain ⟨a, rfl, dx, t', _, ha, ht⟩ := shF_of hdy'
      walk_at "go"
      refine ⟨dx, _, ha, rfl, _, _, sh, _, rfl, hrow sh hmem, hdy', hl', ?_, fun r H2 hS2 hr2 => ?_⟩
      · exact cutR_le sgn (fun t ht => hrow t (List.mem_of_mem_take ht)) _ hz (by omega)
      · refine ⟨hS.trans hS2, _, _, rfl, ?_⟩
        rw [take_snoc hsh, cutR_snoc]
        exact hr2
    · rintro σ' H' ⟨hS, u, l', rfl, hl'⟩
      walk_at "go"
      rw [el, List.take_length] at hl'
      exact q _ _ hS hl'
def spShow (C : Addr) : Sp := fun vs H Q _ => ∃ (v : V) (row : List Sh) (z : Str), vs = [v, .str z] ∧ (∀ s ∈ row, s.ok) ∧ 1 ≤ row.length ∧ row.length ≤ 4 ∧ Dt N0 H v (rowD C row) ∧ okText 200 z = true ∧ ∀ H', Same H H' → Q (.str (showS row z)) H'
theorem ok_show (T : Tx K mg) : FnOk P w K mg base L2.CX0 lv_show T.f_show T.d_show p_show (spShow T.C_Shortener) := by
  refine T.F_show.ok sc_show (fun vs H Q E h => ?_) (fun cdv A outer s H vs Q E hr h => ?_)
  · obtain ⟨v, row, z, rfl, _⟩ := h
    rfl
  · obtain ⟨v, row, z, rfl, hrow, h1, h4, hv, hz, q⟩ := h
    refine ⟨_, (pss_cons (ps_expr (pe_call (ok_check_row T) (hr.mono (by decide)) rfl T.m_check_row T.F_check_row.kp T.b_check_row .nil pass0 (pa_cons (pv 0) pa_nil)))
        (pss_cons (ps_expr (pe_call (ok_check_text T) (hr.mono (by decide)) rfl T.m_check_text T.F_check_text.kp T.b_check_text .nil pass0 (pa_cons (pv 1) pa_nil)))
        (pss_one (ps_ret (pe_joinK (K := K) rfl pe_str (pe_call (ok_cut_by T) (hr.mono (by decide)) rfl T.m_cut_by T.F_cut_by.kp T.b_cut_by .nil pass0 (pa_cons (pv 0) (pa_cons (pe_callTy (call_listK (K := K) rfl rfl) (by rfl) T.n_list (by decide +kernel) (pa_cons (pv 1) pa_nil)) pa_nil)))))))), ?_⟩
    have hz1 := (okText_iff.mp hz).1
    walk_at "go"
    refine ⟨v, row, rfl, hv, h1, h4, fun H1 hS1 => ?_⟩
    refine ⟨z, rfl, hz, fun H2 hS2 => ?_⟩
    refine ⟨⟨_, rfl⟩, ?_⟩
    walk_at "go"
    refine ⟨by rw [sizeLine_eq]; omega, fun p np => ?_⟩
    have sS := Same.snew (hS1.trans hS2) (o := .lst (signsV z)) np
    refine ⟨v, _, row, (cd z).map sgn, rfl, hrow, hv.sm sS, Dt.newL np (dt_signsV z), ?_, fun r H3 hS3 hr3 => ?_⟩
    · rw [List.length_map, cd_len]
      omega
    · rw [cutR_sgn] at hr3
      obtain ⟨p3, xs3, rfl, _, hp3, hs3⟩ := dt_lst hr3
      have e : (showC row (cd z)).map sgn = ((showC row (cd z)).map one).map D.str := by rw [List.map_map]; rfl
      rw [e] at hs3
      have e3 := hs3.strs_eq
      subst e3
      have hle : (showC row (cd z)).length ≤ 200 := cutR_le id hrow _ (by rw [cd_len]; exact hz1) (by omega)
      refine ⟨_, p3, _, rfl, rfl, .inl (SqL.of hp3), ?_, ?_⟩
      · rw [List.map_map, List.length_map]
        have e4 : (showC row (cd z)).map ((fun x => x.length) ∘ one) = (showC row (cd z)).map fun _ => 1 := rfl
        rw [e4, sum_ones]
        show _ + _ * 0 ≤ _
        omega
      · rw [join_one1]
        exact q _ (sS.trans hS3)
end
end G


namespace G
open PySem PySem.Spec PyProof.Rows L2 U
section
variable {P : Program} {w : World} {K : PySem.W.Frag} {mg : Str → Option Value} {base : Heap}
theorem ok1__law_ladle (T : Tx K mg) : FnOk P w K mg base L2.CX0 lv__law_ladle T.f__law_ladle T.d__law_ladle p__law_ladle spDraw1 := by
  refine T.F__law_ladle.ok sc__law_ladle (fun vs H Q E h => ?_) (fun cdv A outer s H vs Q E hr h => ?_)
  · obtain ⟨p, n, a, b, c, rfl, _⟩ := h
    rfl
  · obtain ⟨p, n, a, b, c, rfl, hp, ⟨hn, hn2⟩, q⟩ := h
    refine ⟨_, (pss_cons (ps_asg (pe_op op_addU (pe_ix (ix_K (K := K) rfl) (pv 0) pe_int (fun _ _ => rfl)) pe_int) (pg_sub (pv 0) pe_int set_list))
        (pss_cons (ps_if (pt_cmpR op_gt (pe_ix (ix_K (K := K) rfl) (pv 0) pe_int (fun _ _ => rfl)) pe_int (nomark _)) (pss_cons (ps_asg (pe_callB call_divmod (by rfl) T.n_divmod (by decide +kernel) (pa_cons (pe_callTy call_intU (by rfl) T.n_int (by decide +kernel) (pa_cons (pe_ix (ix_K (K := K) rfl) (pv 0) pe_int (fun _ _ => rfl)) pa_nil)) (pa_cons (pv 1) pa_nil))) (pg_tupK (K := K) (n := 2) rfl rfl (pgs_cons (pg_sub (pv 0) pe_int set_list) (pgs_cons (pg_name (i := 2) sc__law_ladle.nd rfl (by first | exact Or.inl rfl | exact Or.inr rfl)) pgs_nil))))
        (pss_one (ps_ret (pv 2)))) pss_nil)
        (pss_cons (ps_asg (pe_op op_mod (pe_callTy call_intU (by rfl) T.n_int (by decide +kernel) (pa_cons (pe_op op_addU (pe_op op_addU (pe_op op_mul (pe_ix (ix_K (K := K) rfl) (pv 0) pe_int (fun _ _ => rfl)) pe_int) (pe_op op_mul (pe_ix (ix_K (K := K) rfl) (pv 0) pe_int (fun _ _ => rfl)) pe_int)) (pe_op op_mul (pe_op op_fdiv (pe_ix (ix_K (K := K) rfl) (pv 0) pe_int (fun _ _ => rfl)) pe_int) pe_int)) pa_nil)) pe_int) (pg_sub (pv 0) pe_int set_list))
        (pss_one (ps_ret (pe_op op_mod (pe_callTy call_intU (by rfl) T.n_int (by decide +kernel) (pa_cons (pe_op op_fdiv (pe_ix (ix_K (K := K) rfl) (pv 0) pe_int (fun _ _ => rfl)) pe_int) pa_nil)) (pv 1))))))), ?_⟩
    walk_at "go"
    refine ⟨_, .inl (SqL.of hp), _, rfl, ?_⟩
    walk_at "go"
    refine ⟨p, _, 1, 1, rfl, rfl, hp, rfl, ?_⟩
    have e1 : ([V.int a, V.int b, V.int c] : List V).set 1 (V.int (b + 3)) = [.int a, .int (b + 3), .int c] := rfl
    rw [e1]
    refine ⟨_, .inl (SqL.of upd_same), _, rfl, ?_⟩
    walk_at "go"
    refine ite2 (fun ca => ?_) (fun ca => ?_)
    · refine ⟨_, .inl (SqL.of upd_same), _, rfl, ?_⟩
      walk_at "go"
      refine ⟨a, n, rfl, ⟨hn, hn2⟩, fun t ht => ?_⟩
      have npt : p ≠ t := ne_of_none upd_same ht
      refine ⟨_, SqT.of upd_same, rfl, ?_⟩
      walk_at "go"
      refine ⟨p, _, 0, 0, rfl, rfl, (by rw [upd_ne npt]; exact upd_same), rfl, ?_⟩
      rw [upd_ne npt.symm] at ht
      refine q _ _ _ _ _ ?_ upd_same (Int.emod_nonneg _ (by omega)) (Int.emod_lt_of_pos _ hn)
      refine Ext.mut (Ext.new (Ext.mut (Ext.refl _) rfl) ?_) rfl
      rw [upd_ne npt.symm]
      exact ht
    · refine ⟨_, .inl (SqL.of upd_same), _, rfl, ?_⟩
      walk_at "go"
      refine ⟨.inr ⟨by decide, by decide⟩, _, .inl (SqL.of upd_same), _, rfl, ?_⟩
      walk_at "go"
      refine ⟨.inr ⟨by decide, by decide⟩, _, .inl (SqL.of upd_same), _, rfl, ?_⟩
      walk_at "go"
      refine ⟨⟨by decide, by decide⟩, .inr ⟨by decide, by decide⟩, by decide, ?_⟩
      refine ⟨p, _, 2, 2, rfl, rfl, upd_same, rfl, ?_⟩
      refine ⟨_, .inl (SqL.of upd_same), _, rfl, ?_⟩
      walk_at "go"
      refine ⟨⟨by decide, by decide⟩, hn, ?_⟩
      refine q _ _ _ _ _ ?_ upd_same (Int.emod_nonneg _ (by omega)) (Int.emod_lt_of_pos _ hn)
      exact Ext.mut (Ext.mut (Ext.refl _) rfl) rfl
theorem ok__law_ladle (T : Tx K mg) : FnOk P w K mg base L2.CX0 lv__law_ladle T.f__law_ladle T.d__law_ladle p__law_ladle spDraw := fn_draw (ok1__law_ladle T) rfl
/-- one of some things: lists, tuples or texts -/
def spOneOf (K : PySem.W.Frag) : Sp := fun vs H Q _ => ∃ (p : Addr) (v : V), vs = [.ref p, v] ∧ Pot H p ∧
  ((∃ a xs, v = .ref a ∧ (H a = some (.lst xs) ∨ H a = some (.tup xs)) ∧ 0 < xs.length ∧ xs.length < 1000000 ∧ ∀ x H', Same H H' → x ∈ xs → Q x H') ∨
   (∃ z, v = .str z ∧ 0 < z.length ∧ z.length < 1000000 ∧ ∀ c H', Same H H' → c ∈ cd z → Q (.str (one c)) H'))
theorem ok__law_one_of (T : Tx K mg) : FnOk P w K mg base L2.CX0 lv__law_one_of T.f__law_one_of T.d__law_one_of p__law_one_of (spOneOf K) := by
  refine T.F__law_one_of.ok sc__law_one_of (fun vs H Q E h => ?_) (fun cdv A outer s H vs Q E hr h => ?_)
  · obtain ⟨p, v, rfl, _⟩ := h
    rfl
  · obtain ⟨p, v, rfl, hp, h⟩ := h
    refine ⟨_, (pss_one (ps_ret (pe_ix (ix_K (K := K) rfl) (pv 1) (pe_call (ok__law_ladle T) (hr.mono (by decide)) rfl T.m__law_ladle T.F__law_ladle.kp T.b__law_ladle .nil pass0 (pa_cons (pv 0) (pa_cons (pe_callB (call_lenK (K := K) rfl) (by rfl) T.n_len (by decide +kernel) (pa_cons (pv 1) pa_nil)) pa_nil))) (fun _ _ => rfl)))), ?_⟩
    walk_at "go"
    rcases h with ⟨a, xs, rfl, ha, h0, h1, q⟩ | ⟨z, rfl, h0, h1, q⟩
    · have hq : ∀ H', Same H H' → SqL K H' a xs ∨ SqT K H' a xs := fun H' e => by
        rcases ha with ha | ha
        · exact .inl (SqL.of (e _ _ ha))
        · exact .inr (SqT.of (e _ _ ha))
      refine ⟨xs, hq H (Same.refl _), p, _, rfl, hp, ⟨by omega, by omega⟩, fun r H' hS hr0 hr1 => ?_⟩
      obtain ⟨j, rfl⟩ := Int.eq_ofNat_of_zero_le hr0
      have hj : j < xs.length := by omega
      refine ⟨xs, hq H' hS, xs[j], atI_nat (by simp [hj]), q _ _ hS (List.getElem_mem hj)⟩
    · walk_at "go"
      refine ⟨by rw [sizeLine_eq]; omega, p, _, rfl, hp, ⟨by omega, by omega⟩, fun r H' hS hr0 hr1 => ?_⟩
      obtain ⟨j, rfl⟩ := Int.eq_ofNat_of_zero_le hr0
      have hj : j < (cd z).length := by rw [cd_len]; omega
      exact ⟨by rw [sizeLine_eq]; omega, (cd z)[j], atI_nat (show (cd z)[j]? = _ by simp [hj]), q _ _ hS (List.getElem_mem hj)⟩
theorem ok1__law_pot (T : Tx K mg) : FnOk P w K mg base L2.CX0 lv__law_pot T.f__law_pot T.d__law_pot p__law_pot (spPot1 K) := by
  refine T.F__law_pot.ok sc__law_pot (fun vs H Q E h => ?_) (fun cdv A outer s H vs Q E hr h => ?_)
  · obtain ⟨a, ns, i, rfl, _⟩ := h
    rfl
  · obtain ⟨a, ns, i, rfl, hS, hn, hi, q⟩ := h
    refine ⟨_, (pss_cons (ps_set (i := 2) sc__law_pot.nd rfl (by first | exact Or.inl rfl | exact Or.inr rfl) (pe_ifExp (pt_cmpR op_ltU (pv 1) (pe_callB (call_lenK (K := K) rfl) (by rfl) T.n_len (by decide +kernel) (pa_cons (pv 0) pa_nil)) (nomark _)) (pe_callTy call_intU (by rfl) T.n_int (by decide +kernel) (pa_cons (pe_ix (ix_K (K := K) rfl) (pv 0) (pv 1) (fun _ _ => rfl)) pa_nil)) (pe_op op_addU (pe_op op_mul pe_int (pv 1)) pe_int)))
        (pss_cons (ps_set (i := 3) sc__law_pot.nd rfl (by first | exact Or.inl rfl | exact Or.inr rfl) (pe_op op_addU pe_int (pe_op op_mul pe_int (pv 1))))
        (pss_cons (ps_for PassesOwn.never rfl (pi_listK (K := K) rfl (pe_slice (sl_K (K := K) rfl) (pv 0) po_none (po_some pe_int))) (pg_name (i := 4) sc__law_pot.nd rfl (by first | exact Or.inl rfl | exact Or.inr rfl)) (pss_one (ps_set (i := 3) sc__law_pot.nd rfl (by first | exact Or.inl rfl | exact Or.inr rfl) (pe_op op_mod (pe_callTy call_intU (by rfl) T.n_int (by decide +kernel) (pa_cons (pe_op op_addU (pe_op op_mul (pv 3) pe_int) (pe_op op_mod (pe_callTy call_intU (by rfl) T.n_int (by decide +kernel) (pa_cons (pv 4) pa_nil)) pe_int)) pa_nil)) pe_int))))
        (pss_one (ps_ret (pe_lst (pa_cons (pe_ifExp (PW.pt (pw_or (pt_cmpR op_ltU (pv 2) pe_int (nomark _)) (pw_or1 (pt_cmpR op_ge (pv 2) (pe_op op_pow pe_int pe_int) (nomark _))))) (pe_callB call_absU (by rfl) T.n_abs (by decide +kernel) (pa_cons (pv 2) pa_nil)) pe_int) (pa_cons pe_int (pa_cons (pe_op op_mod (pe_callTy call_intU (by rfl) T.n_int (by decide +kernel) (pa_cons (pe_op op_addU (pe_op op_mul (pv 3) pe_int) (pe_op op_mod (pv 2) pe_int)) pa_nil)) pe_int) pa_nil))))))))), ?_⟩
    walk_at "go"
    refine ⟨_, .inl hS, ?_⟩
    walk_at "go"
    refine ite2 (fun c => ?_) (fun c => ?_)
    rw [List.length_map] at c
    have hz : ns[i]? = some ns[i] := by simp [show i < ns.length by omega]
    refine ⟨_, .inl hS, .int ns[i], atI_nat (by rw [List.getElem?_map, hz]; rfl), ?_⟩
    walk_at "go"
    refine ⟨.inl ⟨by decide, by decide⟩, ?_⟩
    rotate_left
    refine ⟨.inl ⟨by decide, by decide⟩, .inl ⟨by decide, by decide⟩, ?_⟩
    all_goals
      refine ⟨_, sli_l hS, fun p1 np1 => ?_⟩
      have e14 : cutV (ns.map V.int) none (some 14) = (ns.take 14).map V.int := by rw [List.map_take]; exact cutV_to _ 14
      rw [e14]
      have s1 := Same.new (o := .lst ((ns.take 14).map V.int)) np1
      refine forL (S := N0) upd_same (fun z => z) (fun j σ H' => Same H H' ∧ Ext N0 (upd H p1 (.lst ((ns.take 14).map V.int))) H' ∧ ∃ o m u, σ = [some (.ref a), some (.int i), some (.int o), some (.int m), u]) ⟨s1, Ext.refl _, _, _, _, rfl⟩ (fun j σ' H' hI => hI.2.1) ?_ ?_
      · rintro j x σ' H' hx ⟨hS1, hE, o, m, u, rfl⟩
        rw [List.getElem?_map] at hx
        obtain ⟨z, _, rfl⟩ := Option.map_eq_some_iff.mp hx
        walk_at "go"
        exact ⟨.inr ⟨by decide, by decide⟩, by decide, by decide, hS1, hE, _, _, _, rfl⟩
      · rintro σ' H' ⟨hS1, hE, o, m, u, rfl⟩
        walk_at "go"
        have fin : ∀ n : Int, (CMul m 9 ∧ (0 : Int) < 1999999889 ∧ (0 : Int) < 1999999889 ∧ 3 ≤ sizeLine ∧ ∀ p, H' p = none → Q (.ref p) (upd H' p (.lst [.int n, .int 2, .int ((m * 9 + o % 1999999889) % 1999999889)]))) := fun n =>
          ⟨.inr ⟨by decide, by decide⟩, by decide, by decide, by decide, fun p hp => q p _ _ _ _ (Same.snew hS1 hp) (Same.free hS1 hp) upd_same⟩
        refine ite2 (fun c1 => fin _) (fun c1 => ⟨⟨by decide, by decide, by decide⟩, ite2 (fun c2 => fin _) (fun c2 => fin _)⟩)
theorem ok__law_pot (T : Tx K mg) : FnOk P w K mg base L2.CX0 lv__law_pot T.f__law_pot T.d__law_pot p__law_pot (spPot K) := fn_newPot (ok1__law_pot T) rfl
end
end G


namespace G
open PySem PySem.Spec PyProof.Rows L2 U
section
variable {P : Program} {w : World} {K : PySem.W.Frag} {mg : Str → Option Value} {base : Heap}
def spTold : Sp := fun vs H Q _ => ∃ p : Addr, vs = [.ref p] ∧ Pot H p ∧ ∀ v H' s, Same H H' → s.ok → Dt N0 H' v (toldD s) → Q v H'
theorem ok__law_told (T : Tx K mg) : FnOk P w K mg base L2.CX0 lv__law_told T.f__law_told T.d__law_told p__law_told spTold := by
  refine T.F__law_told.ok sc__law_told (fun vs H Q E h => ?_) (fun cdv A outer s H vs Q E hr h => ?_)
  · obtain ⟨p, rfl, _⟩ := h
    rfl
  · obtain ⟨p, rfl, hp, q⟩ := h
    have hr64 := hr.units
    refine ⟨_, (pss_cons (ps_set (i := 1) sc__law_told.nd rfl (by first | exact Or.inl rfl | exact Or.inr rfl) (pe_call (ok__law_one_of T) (hr.mono (by decide)) rfl T.m__law_one_of T.F__law_one_of.kp T.b__law_one_of .nil pass0 (pa_cons (pv 0) (pa_cons (pe_lst (pa_cons pe_str (pa_cons pe_str (pa_cons pe_str (pa_cons pe_str (pa_cons pe_str (pa_cons pe_str pa_nil))))))) pa_nil))))
        (pss_cons (ps_par (i := 2) (j := 3) rfl sc__law_told.nd rfl rfl (by decide) rfl rfl (pa_cons (pe_call (ok__law_ladle T) (hr.mono (by decide)) rfl T.m__law_ladle T.F__law_ladle.kp T.b__law_ladle .nil pass0 (pa_cons (pv 0) (pa_cons pe_int pa_nil))) (pa_cons (pe_call (ok__law_one_of T) (hr.mono (by decide)) rfl T.m__law_one_of T.F__law_one_of.kp T.b__law_one_of .nil pass0 (pa_cons (pv 0) (pa_cons (pe_lst (pa_cons pe_int (pa_cons pe_int (pa_cons pe_int (pa_cons pe_int pa_nil))))) pa_nil))) pa_nil)) (by rfl))
        (pss_cons (ps_par (i := 4) (j := 5) rfl sc__law_told.nd rfl rfl (by decide) rfl rfl (pa_cons (pe_call (ok__law_ladle T) (hr.mono (by decide)) rfl T.m__law_ladle T.F__law_ladle.kp T.b__law_ladle .nil pass0 (pa_cons (pv 0) (pa_cons (pv 3) pa_nil))) (pa_cons (pe_call (ok__law_ladle T) (hr.mono (by decide)) rfl T.m__law_ladle T.F__law_ladle.kp T.b__law_ladle .nil pass0 (pa_cons (pv 0) (pa_cons (pv 3) pa_nil))) pa_nil)) (by rfl))
        (pss_cons (ps_if (pt_cmpR (op_eqK (K := K) rfl hr64) (pv 2) pe_int (nomark _)) (pss_one (ps_ret (pe_tup (pa_cons (pe_callB (call_minU rfl) (by rfl) T.n_min (by decide +kernel) (pa_cons pe_int (pa_cons (pe_op op_addU (pe_op op_addU (pv 4) (pv 5)) (pe_callB (call_lenK (K := K) rfl) (by rfl) T.n_len (by decide +kernel) (pa_cons (pv 1) pa_nil))) pa_nil))) (pa_cons (pv 4) (pa_cons (pv 5) (pa_cons (pv 1) pa_nil))))))) pss_nil)
        (pss_cons (ps_if (pt_cmpR (op_eqK (K := K) rfl hr64) (pv 2) pe_int (nomark _)) (pss_one (ps_ret (pe_tup (pa_cons (pe_call (ok__law_ladle T) (hr.mono (by decide)) rfl T.m__law_ladle T.F__law_ladle.kp T.b__law_ladle .nil pass0 (pa_cons (pv 0) (pa_cons (pv 3) pa_nil))) (pa_cons (pv 4) (pa_cons pe_int (pa_cons (pv 1) pa_nil))))))) pss_nil)
        (pss_one (ps_ret (pe_tup (pa_cons (pe_call (ok__law_ladle T) (hr.mono (by decide)) rfl T.m__law_ladle T.F__law_ladle.kp T.b__law_ladle .nil pass0 (pa_cons (pv 0) (pa_cons (pv 3) pa_nil))) (pa_cons (pv 4) (pa_cons (pv 5) (pa_cons (pv 1) pa_nil)))))))))))), ?_⟩
    walk_at "go"
    refine ⟨by decide, fun t1 n1 => ?_⟩
    refine ⟨p, _, rfl, hp.sm (Same.new n1), .inl ⟨t1, _, rfl, .inl upd_same, by decide, by decide, fun x H1 e1 hx => ?_⟩⟩
    obtain ⟨m, rfl, hm⟩ : ∃ m, x = .str m ∧ okText 3 m = true := by
      simp only [List.mem_cons, List.not_mem_nil, or_false] at hx
      rcases hx with rfl | rfl | rfl | rfl | rfl | rfl <;> exact ⟨_, rfl, by decide +kernel⟩
    have S1 := (Same.new n1).trans e1
    walk_at "go"
    refine ⟨p, 4, rfl, hp.sm S1, ⟨by decide, by decide⟩, fun way H2 e2 hw0 hw1 => ?_⟩
    have S2 := S1.trans e2
    refine ⟨by decide, fun t2 n2 => ?_⟩
    refine ⟨p, _, rfl, hp.sm (Same.snew S2 n2), .inl ⟨t2, _, rfl, .inl upd_same, by decide, by decide, fun x H3 e3 hx => ?_⟩⟩
    obtain ⟨b, rfl, hb0, hb1⟩ : ∃ b : Int, x = .int b ∧ 0 < b ∧ b ≤ 41 := by
      simp only [List.mem_cons, List.not_mem_nil, or_false] at hx
      rcases hx with rfl | rfl | rfl | rfl <;> exact ⟨_, rfl, by decide, by decide⟩
    have S3 := (Same.snew S2 n2).trans e3
    walk_at "go"
    refine ⟨p, b, rfl, hp.sm S3, ⟨hb0, by omega⟩, fun low H4 e4 hl0 hl1 => ?_⟩
    have S4 := S3.trans e4
    refine ⟨p, b, rfl, hp.sm S4, ⟨hb0, by omega⟩, fun high H5 e5 hh0 hh1 => ?_⟩
    have S5 := S4.trans e5
    walk_at "go"
    have hml := (okText_iff.mp hm).1
    -- each of the three ways
    have fin : ∀ (l h t : Int) (H6 : Hp), Same H H6 → 0 ≤ l → l ≤ 40 → 0 ≤ h → h ≤ 40 → 0 ≤ t → t ≤ 40 → ∀ y, H6 y = none → Q (.ref y) (upd H6 y (.tup [.int l, .int h, .int t, .str m])) := by
      intro l h t H6 S6 l0 l1 h0 h1 t0 t1 y ny
      obtain ⟨l, rfl⟩ := Int.eq_ofNat_of_zero_le l0
      obtain ⟨h, rfl⟩ := Int.eq_ofNat_of_zero_le h0
      obtain ⟨t, rfl⟩ := Int.eq_ofNat_of_zero_le t0
      have z1 : l ≤ 40 := by omega
      have z2 : h ≤ 40 := by omega
      have z3 : t ≤ 40 := by omega
      refine q _ _ ⟨l, h, t, m⟩ (Same.snew S6 ny) ⟨z1, z2, z3, hm⟩ ?_
      exact Dt.newT ny (.cons (.int _) (.cons (.int _) (.cons (.int _) (.cons (.str _) .nil))))
    refine ite2 (fun c => ?_) (fun c => ?_)
    · refine ⟨by rw [sizeLine_eq]; omega, by decide, fun y ny => ?_⟩
      refine fin _ _ _ _ S5 ?_ ?_ hl0 (by omega) hh0 (by omega) y ny
      · split <;> omega
      · split <;> omega
    · refine ite2 (fun c => ?_) (fun c => ?_)
      · refine ⟨p, b, rfl, hp.sm S5, ⟨hb0, by omega⟩, fun l H6 e6 l0 l1 => ?_⟩
        refine ⟨by decide, fun y ny => ?_⟩
        exact fin _ _ 0 _ (S5.trans e6) l0 (by omega) hl0 (by omega) (by decide) (by decide) y ny
      · refine ⟨p, b, rfl, hp.sm S5, ⟨hb0, by omega⟩, fun l H6 e6 l0 l1 => ?_⟩
        refine ⟨by decide, fun y ny => ?_⟩
        exact fin _ _ _ _ (S5.trans e6) l0 (by omega) hl0 (by omega) hh0 (by omega) y ny
def spTolds : Sp := fun vs H Q _ => ∃ p : Addr, vs = [.ref p] ∧ Pot H p ∧ ∀ v H' row, Same H H' → (∀ s ∈ row, s.ok) → 1 ≤ row.length → row.length ≤ 4 → Dt N0 H' v (toldsD row) → Q v H'
theorem ok__law_tolds (T : Tx K mg) : FnOk P w K mg base L2.CX0 lv__law_tolds T.f__law_tolds T.d__law_tolds p__law_tolds spTolds := by
  refine T.F__law_tolds.ok sc__law_tolds (fun vs H Q E h => ?_) (fun cdv A outer s H vs Q E hr h => ?_)
  · obtain ⟨p, rfl, _⟩ := h
    rfl
  · obtain ⟨p, rfl, hp, q⟩ := h
    refine ⟨_, (pss_one (ps_ret (pe_lc (own := [("_law_k", 1)]) rfl sc__law_tolds.nd (pi_range1 rfl T.n_range (pa_cons (pe_call (ok__law_one_of T) (hr.mono (by decide)) rfl T.m__law_one_of T.F__law_one_of.kp T.b__law_one_of .nil pass0 (pa_cons (pv 0) (pa_cons (pe_lst (pa_cons pe_int (pa_cons pe_int (pa_cons pe_int (pa_cons pe_int (pa_cons pe_int (pa_cons pe_int pa_nil))))))) pa_nil))) pa_nil)) (blkOk_by (N := ["_law_pot_here", "_law_k"]) (sc := L2.defScope s__law_tolds) (by decide +kernel)) (fun _ _ _ _ _ => (pg_name (i := 1) sc__law_tolds.nd rfl (by first | exact Or.inl rfl | exact Or.inr rfl))) (fun _ _ _ _ _ => pts_nil) (fun _ _ _ _ _ => (pe_call (ok__law_told T) (hr.mono (by decide)) rfl T.m__law_told T.F__law_told.kp T.b__law_told .nil pass0 (pa_cons (pv 0) pa_nil)))))), ?_⟩
    walk_at "go"
    refine ⟨by decide, fun t1 n1 => ?_⟩
    refine ⟨p, _, rfl, hp.sm (Same.new n1), .inl ⟨t1, _, rfl, .inl upd_same, by decide, by decide, fun x H1 e1 hx => ?_⟩⟩
    obtain ⟨n, rfl, hn0, hn1⟩ : ∃ n : Nat, x = .int n ∧ 1 ≤ n ∧ n ≤ 4 := by
      simp only [List.mem_cons, List.not_mem_nil, or_false] at hx
      rcases hx with rfl | rfl | rfl | rfl | rfl | rfl
      · exact ⟨1, rfl, by decide, by decide⟩
      · exact ⟨1, rfl, by decide, by decide⟩
      · exact ⟨2, rfl, by decide, by decide⟩
      · exact ⟨2, rfl, by decide, by decide⟩
      · exact ⟨3, rfl, by decide, by decide⟩
      · exact ⟨4, rfl, by decide, by decide⟩
    have S1 := (Same.new n1).trans e1
    refine lcR (by omega) (by omega) (fun i ds => ∃ row : List Sh, ds = row.map toldD ∧ row.length = i ∧ ∀ s ∈ row, s.ok) ⟨[], rfl, rfl, fun _ h => by cases h⟩ ?_ ?_
    · rintro D0 hD i ds H' hi ⟨row, rfl, hl, hok⟩ hE x H2 ⟨rfl, rfl⟩ Ky Kn hy hn
      walk_at "go"
      refine ⟨p, rfl, (hp.sm S1).go hE (ne_fresh (hp.sm S1) hD), fun v H3 sh e3 hsh hv => ?_⟩
      refine hy _ _ (toldD sh) e3 hv (toldD_flat sh) ⟨row ++ [sh], by rw [List.map_append]; rfl, by rw [List.length_append, hl]; rfl, fun t ht => ?_⟩
      rcases List.mem_append.mp ht with z | z
      · exact hok t z
      · rw [List.mem_singleton.mp z]
        exact hsh
    · rintro D0 hD H' ds ⟨row, rfl, hl, hok⟩ hlen hS hv
      exact q _ _ row (S1.trans hS) hok (by omega) (by omega) hv
end
end G


namespace G
open PySem PySem.Spec PyProof.Rows L2 U
section
variable {P : Program} {w : World} {K : PySem.W.Frag} {mg : Str → Option Value} {base : Heap}
def spMade (C : Addr) : Sp := fun vs H Q _ => ∃ (v : V) (row : List Sh), vs = [v] ∧ (∀ s ∈ row, s.ok) ∧ row.length ≤ 100 ∧ Dt N0 H v (toldsD row) ∧ ∀ r H', Same H H' → Dt N0 H' r (rowD C row) → Q r H'
theorem ok__law_made (T : Tx K mg) : FnOk P w K mg base L2.CX0 lv__law_made T.f__law_made T.d__law_made p__law_made (spMade T.C_Shortener) := by
  refine T.F__law_made.ok sc__law_made (fun vs H Q E h => ?_) (fun cdv A outer s H vs Q E hr h => ?_)
  · obtain ⟨v, row, rfl, _⟩ := h
    rfl
  · obtain ⟨v, row, rfl, hrow, hlen, hv, q⟩ := h
    obtain ⟨p, xs, rfl, _, hp, hs⟩ := dt_lst hv
    have el := hs.length
    rw [List.length_map] at el
    refine ⟨_, (pss_one (ps_ret (pe_tupOfK (K := K) rfl rfl T.n_tuple (pe_lc (own := [("_law_a", 1), ("_law_b", 2), ("_law_c", 3), ("_law_d", 4)]) rfl sc__law_made.nd (pi_listK (K := K) rfl (pv 0)) (blkOk_by (N := ["_law_tolds_here", "_law_a", "_law_b", "_law_c", "_law_d"]) (sc := L2.defScope s__law_made) (by decide +kernel)) (fun _ _ _ _ _ => (pg_tupK (K := K) (n := 4) rfl rfl (pgs_cons (pg_name (i := 1) sc__law_made.nd rfl (by first | exact Or.inl rfl | exact Or.inr rfl)) (pgs_cons (pg_name (i := 2) sc__law_made.nd rfl (by first | exact Or.inl rfl | exact Or.inr rfl)) (pgs_cons (pg_name (i := 3) sc__law_made.nd rfl (by first | exact Or.inl rfl | exact Or.inr rfl)) (pgs_cons (pg_name (i := 4) sc__law_made.nd rfl (by first | exact Or.inl rfl | exact Or.inr rfl)) pgs_nil)))))) (fun _ _ _ _ _ => pts_nil) (fun _ _ _ _ _ => (pe_make T.M_Shortener (ok_Shortener___init__ T) (hr.mono (by decide)) rfl T.m_Shortener T.b_Shortener___init__ .nil pass0 (pa_cons (pv 1) (pa_cons (pv 2) (pa_cons (pv 3) (pa_cons (pv 4) pa_nil)))))))))), ?_⟩
    walk_at "go"
    refine lcL hp (by omega) (fun i ds => ds = (row.take i).map (shD T.C_Shortener)) rfl ?_ ?_
    · rintro D0 hD i ds H' hi rfl hE x H2 ⟨rfl, hx⟩ Ky Kn hy hn
      obtain ⟨d, hd, hdx⟩ := hs.getV hx
      rw [List.getElem?_map] at hd
      obtain ⟨sh, hsh, rfl⟩ := Option.map_eq_some_iff.mp hd
      obtain ⟨a, rfl, _, ha⟩ := dt_told hdx
      have ha' := hE _ _ (ne_fresh ha hD) ha
      walk_at "go"
      refine ⟨_, SqT.of ha', rfl, ?_⟩
      walk_at "go"
      intro x dx nx nd ne
      refine ⟨x, dx, sh, rfl, hrow sh (List.mem_of_getElem? hsh), upd_same, fun H3 hE3 hv3 => ⟨rfl, ?_⟩⟩
      exact hy _ _ _ (made_same hE3 nx nd) hv3 (shD_flat _ _) (take_map _ hsh)
    · rintro D0 hD H' ds rfl hl hS hv
      obtain ⟨p2, xs2, e2, _, hp2, hs2⟩ := dt_lst hv
      cases e2
      walk_at "go"
      refine .inl ⟨_, SqL.of hp2, fun y ny => ?_⟩
      rw [el, List.take_length] at hs2
      exact q _ _ (Same.snew hS ny) (Dt.newT ny hs2)
/-- the law's own cutting -/
def spLawCut : Sp := fun vs H Q _ => ∃ (v l : V) (row : List Sh) (ds : List D), vs = [v, l] ∧ (∀ s ∈ row, s.ok) ∧ Dt N0 H v (toldsD row) ∧ Dt N0 H l (.lst ds) ∧ ds.length ≤ 4000000 ∧ ∀ r H', Same H H' → Dt N0 H' r (.lst (cutR sgn row ds)) → Q r H'
theorem ok__law_cut (T : Tx K mg) : FnOk P w K mg base L2.CX0 lv__law_cut T.f__law_cut T.d__law_cut p__law_cut spLawCut := by
  refine T.F__law_cut.ok sc__law_cut (fun vs H Q E h => ?_) (fun cdv A outer s H vs Q E hr h => ?_)
  · obtain ⟨v, l, row, ds, rfl, _⟩ := h
    rfl
  · obtain ⟨v, l, row, ds, rfl, hrow, hv, hl, hz, q⟩ := h
    obtain ⟨p, xs, rfl, _, hp, hs⟩ := dt_lst hv
    have el := hs.length
    rw [List.length_map] at el
    refine ⟨_, (pss_cons (ps_for PassesOwn.never rfl (pi_listK (K := K) rfl (pv 0)) (pg_tupK (K := K) (n := 4) rfl rfl (pgs_cons (pg_name (i := 2) sc__law_cut.nd rfl (by first | exact Or.inl rfl | exact Or.inr rfl)) (pgs_cons (pg_name (i := 3) sc__law_cut.nd rfl (by first | exact Or.inl rfl | exact Or.inr rfl)) (pgs_cons (pg_name (i := 4) sc__law_cut.nd rfl (by first | exact Or.inl rfl | exact Or.inr rfl)) (pgs_cons (pg_name (i := 5) sc__law_cut.nd rfl (by first | exact Or.inl rfl | exact Or.inr rfl)) pgs_nil))))) (pss_one (ps_if (pt_cmpR op_gt (pe_callB (call_lenK (K := K) rfl) (by rfl) T.n_len (by decide +kernel) (pa_cons (pv 1) pa_nil)) (pv 2) (nomark _)) (pss_cons (ps_par (i := 6) (j := 7) rfl sc__law_cut.nd rfl rfl (by decide) rfl rfl (pa_cons (pe_slice (sl_K (K := K) rfl) (pv 1) po_none (po_some (pv 3))) (pa_cons (pe_ifExp (pt_cmpR op_gt (pv 4) pe_int (nomark _)) (pe_slice (sl_K (K := K) rfl) (pv 1) (po_some (pe_un un_neg (pv 4))) po_none) (pe_lst pa_nil)) pa_nil)) (by rfl))
        (pss_one (ps_set (i := 1) sc__law_cut.nd rfl (by first | exact Or.inl rfl | exact Or.inr rfl) (pe_op op_addU (pe_op op_addU (pv 6) (pe_lc (own := [("_law_each", 8)]) rfl sc__law_cut.nd (pi_str (pv 5)) (blkOk_by (N := ["_law_tolds_here", "_law_things", "_law_bound", "_law_low", "_law_high", "_law_sign", "_law_front", "_law_back", "_law_each"]) (sc := L2.defScope s__law_cut) (by decide +kernel)) (fun _ _ _ _ _ => (pg_name (i := 8) sc__law_cut.nd rfl (by first | exact Or.inl rfl | exact Or.inr rfl))) (fun _ _ _ _ _ => pts_nil) (fun _ _ _ _ _ => (pv 8)))) (pv 7))))) pss_nil)))
        (pss_one (ps_ret (pv 1)))), ?_⟩
    walk_at "lz"
    refine forL (S := N0) hp (fun z => z) (fun i σ H' => Same H H' ∧ ∃ l' u1 u2 u3 u4 u5 u6 u7, σ = [some (.ref p), some l', u1, u2, u3, u4, u5, u6, u7] ∧ Dt N0 H' l' (.lst (cutR sgn (row.take i) ds)))
      ⟨Same.refl _, _, _, _, _, _, _, _, _, rfl, hl⟩ (fun i σ' H' hI => Ext.of hI.1) ?_ ?_
    · rintro i x σ' H' hx ⟨hS, l', u1, u2, u3, u4, u5, u6, u7, rfl, hl'⟩
      obtain ⟨d, hd, hdx⟩ := hs.getV hx
      rw [List.getElem?_map] at hd
      obtain ⟨sh, hsh, rfl⟩ := Option.map_eq_some_iff.mp hd
      have hmem : sh ∈ row := List.mem_of_getElem? hsh
      obtain ⟨a, rfl, _, ha⟩ := dt_told hdx
      obtain ⟨b, ys, rfl, _, hb, hys⟩ := dt_lst hl'
      have ely := hys.length
      have hle : ys.length ≤ 4000000 := by
        rw [ely]
        exact cutR_le sgn (fun t ht => hrow t (List.mem_of_mem_take ht)) _ hz (by omega)
      have step : cutR sgn (row.take (i + 1)) ds = cutP sgn sh (cutR sgn (row.take i) ds) := by rw [take_snoc hsh, cutR_snoc]
      walk_at "lz"
      refine ⟨_, SqT.of (hS _ _ ha), rfl, ?_⟩
      walk_at "lz"
      refine ⟨ys, .inl (SqL.of hb), ?_⟩
      refine ite2 (fun c => ?_) (fun c => ?_)
      · refine ⟨_, sli_l (SqL.of hb), fun p1 np1 => ?_⟩
        rw [cutV_to]
        have s1 := Same.new (o := .lst (ys.take sh.head)) np1
        -- what follows once the back is there
        have rest : ∀ (H2 : Hp) (p2 : Addr), Same H' H2 → H2 p1 = some (.lst (ys.take sh.head)) → H2 p2 = some (.lst (ys.drop (ys.length - sh.tail))) → rLcS (gName 8) tYes (tVar 8) [8]
            [some (.ref p), some (.ref b), some (.int sh.limit), some (.int sh.head), some (.int sh.tail), some (.str sh.mark), some (.ref p1), some (.ref p2), u7]
            (fun y H5 => rAddU (.ref p1) y H5 fun x H6 => rAddU x (.ref p2) H6 fun v H7 => Same H H7 ∧ ∃ l' v1 v2 v3 v4 v5 v6 v7,
              [some (.ref p), some v, some (.int sh.limit), some (.int sh.head), some (.int sh.tail), some (.str sh.mark), some (.ref p1), some (.ref p2), u7] = [some (.ref p), some l', v1, v2, v3, v4, v5, v6, v7] ∧ Dt N0 H7 l' (.lst (cutR sgn (row.take (i + 1)) ds))) (.str sh.mark) H2 := by
          intro H2 p2 S2 h1 h2
          have hm := (okText_iff.mp (hrow sh hmem).2.2.2).1
          refine lcS (by rw [cd_size, cd_len]; omega) (fun j es => es = ((cd sh.mark).take j).map sgn) rfl ?_ ?_
          · rintro D0 hD j es H3 hj rfl hE x H4 ⟨rfl, c, hc, rfl⟩ Ky Kn hy hn
            walk_at "go"
            exact hy _ _ _ (Same.refl _) (.str (one c)) rfl (take_map sgn (cd_get hc))
          · rintro D0 hD H3 es rfl hlen S3 hv3
            obtain ⟨p3, zs, e3, _, hp3, hzs⟩ := dt_lst hv3
            cases e3
            rw [cd_size, List.take_length] at hzs
            have lz := hzs.length
            rw [List.length_map, cd_len] at lz
            refine ⟨_, _, S3 _ _ h1, hp3, ?_, fun r nr => ?_⟩
            · rw [sizeLine_eq, List.length_take]
              omega
            · have S4 := Same.new (o := .lst (ys.take sh.head ++ zs)) nr
              refine ⟨_, _, upd_same, S4 _ _ (S3 _ _ h2), ?_, fun r2 nr2 => ?_⟩
              · rw [sizeLine_eq, List.length_append, List.length_take, List.length_drop]
                omega
              · have S5 := Same.snew ((S2.trans S3).trans S4) (o := .lst (ys.take sh.head ++ zs ++ ys.drop (ys.length - sh.tail))) nr2
                refine ⟨hS.trans S5, _, _, _, _, _, _, _, _, rfl, ?_⟩
                rw [step]
                unfold cutP
                rw [if_neg (by omega), ← ely]
                refine Dt.newL nr2 ?_
                exact DtA.append (DtA.append ((hys.take _).sm ((S2.trans S3).trans S4)) (hzs.sm S4)) ((hys.drop _).sm ((S2.trans S3).trans S4))
        refine ite2 (fun c2 => ?_) (fun c2 => ?_)
        · refine ⟨_, sli_l (SqL.of (s1 _ _ hb)), fun p2 np2 => ?_⟩
          rw [cutV_back _ _ (by omega)]
          exact rest _ p2 (Same.snew s1 np2) (Same.new np2 _ _ upd_same) upd_same
        · refine ⟨by decide, fun p2 np2 => ?_⟩
          have e0 : ys.drop (ys.length - sh.tail) = [] := List.drop_eq_nil_of_le (by omega)
          exact rest _ p2 (Same.snew s1 np2) (Same.new np2 _ _ upd_same) (by rw [e0]; exact upd_same)
      · refine ⟨hS, _, _, _, _, _, _, _, _, rfl, ?_⟩
        rw [step]
        unfold cutP
        rw [if_pos (by omega)]
        exact .lst (fun z => z) hb hys
    · rintro σ' H' ⟨hS, l', u1, u2, u3, u4, u5, u6, u7, rfl, hl'⟩
      walk_at "go"
      rw [el, List.take_length] at hl'
      exact q _ _ hS hl'
def spLawSeen : Sp := fun vs H Q _ => ∃ (v : V) (row : List Sh) (z : Str), vs = [v, .str z] ∧ (∀ s ∈ row, s.ok) ∧ Dt N0 H v (toldsD row) ∧ z.length ≤ 4000000 ∧ ∀ H', Same H H' → Q (.str (showS row z)) H'
def spLine : Sp := fun vs H Q _ => ∃ (p : Addr) (n : Nat), vs = [.ref p, .int n] ∧ Pot H p ∧ n ≤ 4000000 ∧ ∀ z H', Same H H' → (cd z).length = n → (∀ c ∈ cd z, c ∈ U.signs) → Q (.str z) H'
theorem ok__law_line (T : Tx K mg) : FnOk P w K mg base L2.CX0 lv__law_line T.f__law_line T.d__law_line p__law_line spLine := by
  refine T.F__law_line.ok sc__law_line (fun vs H Q E h => ?_) (fun cdv A outer s H vs Q E hr h => ?_)
  · obtain ⟨p, n, rfl, _⟩ := h
    rfl
  · obtain ⟨p, n, rfl, hp, hn, q⟩ := h
    refine ⟨_, (pss_cons (ps_set (i := 2) sc__law_line.nd rfl (by first | exact Or.inl rfl | exact Or.inr rfl) (pe_call (ok__law_one_of T) (hr.mono (by decide)) rfl T.m__law_one_of T.F__law_one_of.kp T.b__law_one_of .nil pass0 (pa_cons (pv 0) (pa_cons (pe_lst (pa_cons pe_str (pa_cons pe_str (pa_cons pe_str pa_nil)))) pa_nil))))
        (pss_one (ps_ret (pe_joinK (K := K) rfl pe_str (pe_lc (own := [("_law_k", 3)]) rfl sc__law_line.nd (pi_range1 rfl T.n_range (pa_cons (pv 1) pa_nil)) (blkOk_by (N := ["_law_pot_here", "_law_many", "_law_signs_here", "_law_k"]) (sc := L2.defScope s__law_line) (by decide +kernel)) (fun _ _ _ _ _ => (pg_name (i := 3) sc__law_line.nd rfl (by first | exact Or.inl rfl | exact Or.inr rfl))) (fun _ _ _ _ _ => pts_nil) (fun _ _ _ _ _ => (pe_call (ok__law_one_of T) (hr.mono (by decide)) rfl T.m__law_one_of T.F__law_one_of.kp T.b__law_one_of .nil pass0 (pa_cons (pv 0) (pa_cons (pv 2) pa_nil))))))))), ?_⟩
    walk_at "go"
    refine ⟨by decide, fun t1 n1 => ?_⟩
    refine ⟨p, _, rfl, hp.sm (Same.new n1), .inl ⟨t1, _, rfl, .inl upd_same, by decide, by decide, fun x H1 e1 hx => ?_⟩⟩
    obtain ⟨m, rfl, hm, hml0, hml1⟩ : ∃ m, x = .str m ∧ (∀ c ∈ cd m, c ∈ U.signs) ∧ 0 < m.length ∧ m.length < 1000 := by
      simp only [List.mem_cons, List.not_mem_nil, or_false] at hx
      rcases hx with rfl | rfl | rfl <;> exact ⟨_, rfl, by decide +kernel, by decide +kernel, by decide +kernel⟩
    have S1 := (Same.new n1).trans e1
    walk_at "go"
    refine ⟨⟨_, rfl⟩, ?_⟩
    refine lcR (by omega) (by omega) (fun i ds => ∃ l : List Nat, ds = l.map sgn ∧ l.length = i ∧ ∀ c ∈ l, c ∈ U.signs) ⟨[], rfl, rfl, fun _ h => by cases h⟩ ?_ ?_
    · rintro D0 hD i ds H' hi ⟨l, rfl, hl, hok⟩ hE x H2 ⟨rfl, rfl⟩ Ky Kn hy hn
      walk_at "go"
      have hp2 : Pot H2 p := (hp.sm S1).go hE (ne_fresh (hp.sm S1) hD)
      refine ⟨p, _, rfl, hp2, .inr ⟨m, rfl, hml0, by omega, fun c H3 e3 hc => ?_⟩⟩
      refine hy _ _ (sgn c) e3 (.str _) rfl ⟨l ++ [c], by rw [List.map_append]; rfl, by rw [List.length_append, hl]; rfl, fun t ht => ?_⟩
      rcases List.mem_append.mp ht with z | z
      · exact hok t z
      · rw [List.mem_singleton.mp z]
        exact hm c hc
    · rintro D0 hD H' ds ⟨l, rfl, hl, hok⟩ hlen S3 hv3
      obtain ⟨p3, xs3, e0, _, hp3, hs3⟩ := dt_lst hv3
      cases e0
      have e : l.map sgn = (l.map one).map D.str := by rw [List.map_map]; rfl
      rw [e] at hs3
      have e3 := hs3.strs_eq
      subst e3
      refine ⟨_, D0, _, rfl, rfl, .inl (SqL.of hp3), ?_, ?_⟩
      · rw [List.map_map, List.length_map]
        have e4 : l.map ((fun x => x.length) ∘ one) = l.map fun _ => 1 := rfl
        rw [e4, sum_ones]
        show _ + _ * 0 ≤ _
        omega
      · rw [U.join_one1]
        exact q (ofL l) _ (S1.trans S3) (by rw [cd_ofL]; omega) (by rw [cd_ofL]; exact hok)
end
end G


namespace G
open PySem PySem.Spec PyProof.Rows L2 U
section
variable {P : Program} {w : World} {K : PySem.W.Frag} {mg : Str → Option Value} {base : Heap}
def spPlanOf (C : Addr) : Sp := fun vs H Q _ => ∃ (v : V) (row : List Sh) (n : Nat), vs = [v, .int n] ∧ (∀ s ∈ row, s.ok) ∧ Dt N0 H v (rowD C row) ∧ n ≤ 600 ∧ ∀ r H', Same H H' → Dt N0 H' r (.lst (cutR sgn row (nums n))) → Q r H'
theorem ok_plan_of (T : Tx K mg) : FnOk P w K mg base L2.CX0 lv_plan_of T.f_plan_of T.d_plan_of p_plan_of (spPlanOf T.C_Shortener) := by
  refine T.F_plan_of.ok sc_plan_of (fun vs H Q E h => ?_) (fun cdv A outer s H vs Q E hr h => ?_)
  · obtain ⟨v, row, n, rfl, _⟩ := h
    rfl
  · obtain ⟨v, row, n, rfl, hrow, hv, hn, q⟩ := h
    refine ⟨_, (pss_one (ps_ret (pe_call (ok_cut_by T) (hr.mono (by decide)) rfl T.m_cut_by T.F_cut_by.kp T.b_cut_by .nil pass0 (pa_cons (pv 0) (pa_cons (pe_listRg rfl rfl T.n_list (prg_1 rfl T.n_range (pv 1))) pa_nil))))), ?_⟩
    walk_at "go"
    refine ⟨RgOk.of_le (by decide) (by omega) (by decide) (by omega), fun p np => ?_⟩
    have S1 := Same.new (o := .lst (rgV 0 n)) np
    refine ⟨v, _, row, nums n, rfl, hrow, hv.sm S1, Dt.newL np (dt_rg n), by rw [nums_length]; omega, fun r H2 S2 hr2 => ?_⟩
    exact q _ _ (S1.trans S2) hr2
def spCheckLength : Sp := fun vs H Q _ => ∃ n : Nat, vs = [.int n] ∧ n ≤ 500 ∧ Q .non H
def spIsLength : Sp := fun vs H Q _ => ∃ n : Nat, vs = [.int n] ∧ n ≤ 500 ∧ Q (.bl true) H
theorem ok_is_length (T : Tx K mg) : FnOk P w K mg base L2.CX0 lv_is_length T.f_is_length T.d_is_length p_is_length spIsLength := by
  refine T.F_is_length.ok sc_is_length (fun vs H Q E h => ?_) (fun cdv A outer s H vs Q E hr h => ?_)
  · obtain ⟨n, rfl, _⟩ := h
    rfl
  · obtain ⟨n, rfl, hn, q⟩ := h
    refine ⟨_, (pss_one (ps_ret (pe_and (pe_call (ok_is_integer T) (hr.mono (by decide)) rfl T.m_is_integer T.F_is_integer.kp T.b_is_integer .nil pass0 (pa_cons (pv 0) pa_nil)) (pe_one (pe_chain op_le op_le pe_int (pv 0) (C8.pe_gc rfl T.k_MOST_LENGTH)))))), ?_⟩
    walk_at "go"
    refine ⟨_, "int", rfl, .base (.int _), by simp, true, rfl, ?_⟩
    have h1 : (0 : Int) ≤ (n : Int) := by omega
    have h2 : (n : Int) ≤ 500 := by omega
    simp only [h1, h2]
    walk_at "go"
    exact q
theorem ok_check_length (T : Tx K mg) : FnOk P w K mg base L2.CX0 lv_check_length T.f_check_length T.d_check_length p_check_length spCheckLength := by
  refine T.F_check_length.ok sc_check_length (fun vs H Q E h => ?_) (fun cdv A outer s H vs Q E hr h => ?_)
  · obtain ⟨n, rfl, _⟩ := h
    rfl
  · obtain ⟨n, rfl, hn, q⟩ := h
    refine ⟨_, (pss_one (ps_if (pt_not (pt_val (pe_call (ok_is_length T) (hr.mono (by decide)) rfl T.m_is_length T.F_is_length.kp T.b_is_length .nil pass0 (pa_cons (pv 0) pa_nil)))) (pss_one ps_never) pss_nil)), ?_⟩
    walk_at "go"
    refine ⟨n, rfl, hn, ?_⟩
    walk_at "go"
    exact q
end
end G


namespace G
open PySem PySem.Spec PyProof.Rows L2 U
section
variable {P : Program} {w : World} {K : PySem.W.Frag} {mg : Str → Option Value} {base : Heap}
def spPlan (C : Addr) : Sp := fun vs H Q _ => ∃ (v : V) (row : List Sh) (n : Nat), vs = [v, .int n] ∧ (∀ s ∈ row, s.ok) ∧ 1 ≤ row.length ∧ row.length ≤ 4 ∧ Dt N0 H v (rowD C row) ∧ n ≤ 500 ∧ ∀ r H', Same H H' → Dt N0 H' r (.tup (cutR sgn row (nums n))) → Q r H'
theorem ok_plan (T : Tx K mg) : FnOk P w K mg base L2.CX0 lv_plan T.f_plan T.d_plan p_plan (spPlan T.C_Shortener) := by
  refine T.F_plan.ok sc_plan (fun vs H Q E h => ?_) (fun cdv A outer s H vs Q E hr h => ?_)
  · obtain ⟨v, row, n, rfl, _⟩ := h
    rfl
  · obtain ⟨v, row, n, rfl, hrow, h1, h4, hv, hn, q⟩ := h
    refine ⟨_, (pss_cons (ps_expr (pe_call (ok_check_row T) (hr.mono (by decide)) rfl T.m_check_row T.F_check_row.kp T.b_check_row .nil pass0 (pa_cons (pv 0) pa_nil)))
        (pss_cons (ps_expr (pe_call (ok_check_length T) (hr.mono (by decide)) rfl T.m_check_length T.F_check_length.kp T.b_check_length .nil pass0 (pa_cons (pv 1) pa_nil)))
        (pss_one (ps_ret (pe_tupOfK (K := K) rfl rfl T.n_tuple (pe_call (ok_plan_of T) (hr.mono (by decide)) rfl T.m_plan_of T.F_plan_of.kp T.b_plan_of .nil pass0 (pa_cons (pv 0) (pa_cons (pv 1) pa_nil)))))))), ?_⟩
    walk_at "go"
    refine ⟨v, row, rfl, hv, h1, h4, fun H1 S1 => ⟨n, rfl, hn, ?_⟩⟩
    refine ⟨v, row, n, rfl, hrow, hv.sm S1, by omega, fun r H2 S2 hr2 => ?_⟩
    obtain ⟨p3, xs3, rfl, _, hp3, hs3⟩ := dt_lst hr2
    refine .inl ⟨_, _, rfl, SqL.of hp3, fun y ny => ?_⟩
    exact q _ _ (Same.snew (S1.trans S2) ny) (Dt.newT ny hs3)
def spWidest (C : Addr) : Sp := fun vs H Q _ => ∃ (v : V) (row : List Sh), vs = [v] ∧ (∀ s ∈ row, s.ok) ∧ 1 ≤ row.length ∧ row.length ≤ 4 ∧ Dt N0 H v (rowD C row) ∧ ∀ (m : Nat) H', Same H H' → isW row m → Q (.int m) H'
theorem ok_widest (T : Tx K mg) : FnOk P w K mg base L2.CX0 lv_widest T.f_widest T.d_widest p_widest (spWidest T.C_Shortener) := by
  refine T.F_widest.ok sc_widest (fun vs H Q E h => ?_) (fun cdv A outer s H vs Q E hr h => ?_)
  · obtain ⟨v, row, rfl, _⟩ := h
    rfl
  · obtain ⟨v, row, rfl, hrow, h1, h4, hv, q⟩ := h
    refine ⟨_, (pss_cons (ps_expr (pe_call (ok_check_row T) (hr.mono (by decide)) rfl T.m_check_row T.F_check_row.kp T.b_check_row .nil pass0 (pa_cons (pv 0) pa_nil)))
        (pss_one (ps_ret (pe_callB (cr_maxK (K := K) rfl rfl) (by rfl) T.n_max (by decide +kernel) (pa_cons (pe_lc (own := [("length", 1)]) rfl sc_widest.nd (pi_range1 rfl T.n_range (pa_cons (pe_op op_addU (C8.pe_gc rfl T.k_MOST_SIGNS) pe_int) pa_nil)) (blkOk_by (N := ["row", "length"]) (sc := L2.defScope s_widest) (by decide +kernel)) (fun _ _ _ _ _ => (pg_name (i := 1) sc_widest.nd rfl (by first | exact Or.inl rfl | exact Or.inr rfl))) (fun _ _ _ _ _ => pts_nil) (fun _ _ _ _ _ => (pe_callB (call_lenK (K := K) rfl) (by rfl) T.n_len (by decide +kernel) (pa_cons (pe_call (ok_plan_of T) (hr.mono (by decide)) rfl T.m_plan_of T.F_plan_of.kp T.b_plan_of .nil pass0 (pa_cons (pv 0) (pa_cons (pv 1) pa_nil))) pa_nil)))) pa_nil))))), ?_⟩
    walk_at "go"
    refine ⟨v, row, rfl, hv, h1, h4, fun H1 S1 => ?_⟩
    refine lcR (by decide) (by decide) (fun i ds => ds = (List.range i).map fun n => D.int (lenR row n)) rfl ?_ ?_
    · rintro D0 hD i ds H' hi rfl hE x H2 ⟨rfl, rfl⟩ Ky Kn hy hn
      walk_at "go"
      refine ⟨v, row, i, rfl, hrow, (hv.sm S1).sm (hE.same hD), by omega, fun r H3 S3 hr3 => ?_⟩
      obtain ⟨p3, xs3, rfl, _, hp3, hs3⟩ := dt_lst hr3
      have l3 := hs3.length
      rw [cutR_length, nums_length] at l3
      walk_at "go"
      refine ⟨_, .inl (SqL.of hp3), ?_⟩
      rw [l3]
      exact hy _ _ _ S3 (.int _) rfl (show _ ++ _ = List.map _ (List.range (i + 1)) by rw [List.range_succ, List.map_append]; rfl)
    · rintro D0 hD H' ds rfl hlen hS hv2
      obtain ⟨p3, xs3, e0, _, hp3, hs3⟩ := dt_lst hv2
      cases e0
      have e : ((List.range (40 + 2 : Int).toNat).map fun n => D.int (lenR row n)) = ((List.range 42).map fun n => (lenR row n : Int)).map D.int := by rw [List.map_map]; rfl
      rw [e] at hs3
      have e3 := hs3.ints_eq
      subst e3
      refine ⟨_, _, rfl, SqL.of hp3, by rw [List.length_map, List.length_range]; decide, fun m hm hmax => ?_⟩
      obtain ⟨k, rfl, hk⟩ := isW_of hrow h1 (by decide) hm hmax
      exact q k _ (S1.trans hS) hk
end
end G


namespace G
open PySem PySem.Spec PyProof.Rows L2 U
section
variable {P : Program} {w : World} {K : PySem.W.Frag} {mg : Str → Option Value} {base : Heap}
def spRight : Sp := fun vs H Q _ => ∃ p : Addr, vs = [.ref p] ∧ Pot H p ∧ ∀ H', Same H H' → Q (.bl true) H'
theorem ok__law_right (T : Tx K mg) : FnG P w K mg base lv__law_right T.f__law_right T.d__law_right p__law_right spRight := by
  refine fnG_of T.F__law_right sc__law_right (fun vs H Q E h => ?_) (fun cdv A outer s H vs Q E hr hgd h => ?_)
  · obtain ⟨p, rfl, _⟩ := h
    rfl
  · obtain ⟨p, rfl, hp, q⟩ := h
    have hr64 := hr.units
    refine ⟨_, (pss_cons (ps_for PassesOwn.never rfl (pi_range1 rfl T.n_range (pa_cons pe_int pa_nil)) (pg_name (i := 1) sc__law_right.nd rfl (by first | exact Or.inl rfl | exact Or.inr rfl)) (pss_cons (ps_set (i := 2) sc__law_right.nd rfl (by first | exact Or.inl rfl | exact Or.inr rfl) (pe_call (ok__law_tolds T) (hr.mono (by decide)) rfl T.m__law_tolds T.F__law_tolds.kp T.b__law_tolds .nil pass0 (pa_cons (pv 0) pa_nil)))
        (pss_cons (ps_par (i := 3) (j := 4) rfl sc__law_right.nd rfl rfl (by decide) rfl rfl (pa_cons (pe_call (ok__law_made T) (hr.mono (by decide)) rfl T.m__law_made T.F__law_made.kp T.b__law_made .nil pass0 (pa_cons (pv 2) pa_nil)) (pa_cons (pe_lst pa_nil) pa_nil)) (by rfl))
        (pss_cons (ps_for PassesOwn.never rfl (pi_range1 rfl T.n_range (pa_cons pe_int pa_nil)) (pg_name (i := 5) sc__law_right.nd rfl (by first | exact Or.inl rfl | exact Or.inr rfl)) (pss_one (ps_expr (pe_bm PySem.F.plainAttrs_list PySem.F.slot_list_append PySem.F.type_list_append mt_append (pv 4) (pa_cons (pe_callB (call_lenK (K := K) rfl) (by rfl) T.n_len (by decide +kernel) (pa_cons (pe_call (ok__law_cut T) (hr.mono (by decide)) rfl T.m__law_cut T.F__law_cut.kp T.b__law_cut .nil pass0 (pa_cons (pv 2) (pa_cons (pe_listRg rfl rfl T.n_list (prg_1 rfl T.n_range (pv 5))) pa_nil))) pa_nil)) pa_nil)))))
        (pss_cons (ps_if (pt_cmpR (op_neK (K := K) rfl hr64) (pe_lst (pa_cons (pe_call (ok_widest T) (hr.mono (by decide)) rfl T.m_widest T.F_widest.kp T.b_widest .nil pass0 (pa_cons (pv 3) pa_nil)) (pa_cons (pe_callN0 (ok_widest T) (hr.mono (by decide)) rfl T.m_widest T.F_widest.kp (T.kb_widest_0) (pk_cons (pv 3) pk_nil)) pa_nil))) (pe_op op_rep (pe_lst (pa_cons (pe_callB (cr_maxK (K := K) rfl rfl) (by rfl) T.n_max (by decide +kernel) (pa_cons (pv 4) pa_nil)) pa_nil)) pe_int) (nomark _)) (pss_one (ps_ret pe_bl)) pss_nil)
        (pss_one (ps_for PassesOwn.never rfl (pi_range1 rfl T.n_range (pa_cons pe_int pa_nil)) (pg_name (i := 6) sc__law_right.nd rfl (by first | exact Or.inl rfl | exact Or.inr rfl)) (pss_cons (ps_set (i := 5) sc__law_right.nd rfl (by first | exact Or.inl rfl | exact Or.inr rfl) (pe_call (ok__law_one_of T) (hr.mono (by decide)) rfl T.m__law_one_of T.F__law_one_of.kp T.b__law_one_of .nil pass0 (pa_cons (pv 0) (pa_cons (pe_lst (pa_cons pe_int (pa_cons pe_int (pa_cons (pe_call (ok__law_ladle T) (hr.mono (by decide)) rfl T.m__law_ladle T.F__law_ladle.kp T.b__law_ladle .nil pass0 (pa_cons (pv 0) (pa_cons pe_int pa_nil))) (pa_cons (pe_call (ok__law_ladle T) (hr.mono (by decide)) rfl T.m__law_ladle T.F__law_ladle.kp T.b__law_ladle .nil pass0 (pa_cons (pv 0) (pa_cons pe_int pa_nil))) (pa_cons pe_int pa_nil)))))) pa_nil))))
        (pss_cons (ps_set (i := 7) sc__law_right.nd rfl (by first | exact Or.inl rfl | exact Or.inr rfl) (pe_tupOfK (K := K) rfl rfl T.n_tuple (pe_call (ok__law_cut T) (hr.mono (by decide)) rfl T.m__law_cut T.F__law_cut.kp T.b__law_cut .nil pass0 (pa_cons (pv 2) (pa_cons (pe_listRg rfl rfl T.n_list (prg_1 rfl T.n_range (pv 5))) pa_nil)))))
        (pss_cons (ps_if (pt_cmpR (op_neK (K := K) rfl hr64) (pe_callB (call_reprK (K := K) rfl hgd hr64) (by rfl) T.n_repr (by decide +kernel) (pa_cons (pe_lst (pa_cons (pe_call (ok_plan T) (hr.mono (by decide)) rfl T.m_plan T.F_plan.kp T.b_plan .nil pass0 (pa_cons (pv 3) (pa_cons (pv 5) pa_nil))) (pa_cons (pe_callN0 (ok_plan T) (hr.mono (by decide)) rfl T.m_plan T.F_plan.kp (T.kb_plan_1_0) (pk_cons (pv 5) (pk_cons (pv 3) pk_nil))) pa_nil))) pa_nil)) (pe_callB (call_reprK (K := K) rfl hgd hr64) (by rfl) T.n_repr (by decide +kernel) (pa_cons (pe_lst (pa_cons (pv 7) (pa_cons (pv 7) pa_nil))) pa_nil)) (nomark _)) (pss_one (ps_ret pe_bl)) pss_nil)
        (pss_one (ps_if (pt_cmpR op_ltU (pv 5) pe_int (nomark _)) (pss_cons (ps_set (i := 8) sc__law_right.nd rfl (by first | exact Or.inl rfl | exact Or.inr rfl) (pe_call (ok__law_line T) (hr.mono (by decide)) rfl T.m__law_line T.F__law_line.kp T.b__law_line .nil pass0 (pa_cons (pv 0) (pa_cons (pv 5) pa_nil))))
        (pss_one (ps_if (pt_cmpR (op_neK (K := K) rfl hr64) (pe_joinK (K := K) rfl pe_str (pe_lc (own := [("_law_at", 9)]) rfl sc__law_right.nd (pi_tupK (K := K) rfl (pv 7)) (blkOk_by (N := ["_law_pot_here", "_law_again", "_law_tolds_here", "_law_made_here", "_law_lengths_here", "_law_many", "_law_turn", "_law_due", "_law_line_here", "_law_at"]) (sc := L2.defScope s__law_right) (by decide +kernel)) (fun _ _ _ _ _ => (pg_name (i := 9) sc__law_right.nd rfl (by first | exact Or.inl rfl | exact Or.inr rfl))) (fun _ _ _ _ _ => pts_nil) (fun _ _ _ _ _ => (pe_ifExp (pt_val (pe_callB (call_isiK (K := K) rfl) (by rfl) T.n_isinstance (by decide +kernel) (pa_cons (pv 9) (pa_cons (pe_bt "str" rfl T.n_str (by decide +kernel)) pa_nil)))) (pv 9) (pe_ix (ix_K (K := K) rfl) (pv 8) (pv 9) (fun _ _ => rfl)))))) (pe_call (ok_show T) (hr.mono (by decide)) rfl T.m_show T.F_show.kp T.b_show .nil pass0 (pa_cons (pv 3) (pa_cons (pv 8) pa_nil))) (nomark _)) (pss_one (ps_ret pe_bl)) pss_nil))) pss_nil))))))))))))
        (pss_one (ps_ret pe_bl))), ?_⟩
    walk_at "lx"
    refine forR (by decide) (by decide) (fun i σ H' => Same H H' ∧ ∃ u1 u2 u3 u4 u5 u6 u7 u8 u9, σ = [some (.ref p), u1, u2, u3, u4, u5, u6, u7, u8, u9]) ⟨Same.refl _, _, _, _, _, _, _, _, _, _, rfl⟩ ?_ ?_
    · rintro i σ' H' hi ⟨S0, u1, u2, u3, u4, u5, u6, u7, u8, u9, rfl⟩
      walk_at "lx"
      refine ⟨p, rfl, hp.sm S0, fun v H1 row S1 hrow h1 h4 hv => ?_⟩
      refine ⟨v, row, rfl, hrow, by omega, hv, fun v1 H2 S2 hv1 => ?_⟩
      have S3 := (S0.trans S1).trans S2
      have hv2 := hv.sm S2
      refine ⟨Nat.zero_le _, fun L nL => ?_⟩
      have S4 := Same.new (o := .lst []) nL
      refine forR (by decide) (by decide) (fun j σ H' => Ext (fun a => a = L) (upd H2 L (.lst [])) H' ∧ H' L = some (.lst ((List.range j).map fun n => V.int (lenR row n))) ∧ ∃ u5 u6 u7 u8 u9, σ = [some (.ref p), some (.int i), some v, some v1, some (.ref L), u5, u6, u7, u8, u9]) ⟨Ext.refl _, upd_same, _, _, _, _, _, rfl⟩ ?_ ?_
      · rintro j σ' H5 hj ⟨E5, hL, u5, u6, u7, u8, u9, rfl⟩
        have S5 : Same H2 H5 := Ext.same ((Ext.of S4).trans E5) nL
        walk_at "lx"
        refine ⟨.inl ⟨rfl, _, SqL.of hL⟩, ?_⟩
        refine ⟨RgOk.of_le (by decide) (by omega) (by decide) (by omega), fun t nt => ?_⟩
        have S6 := Same.new (o := .lst (rgV 0 j)) nt
        refine ⟨v, _, row, nums j, rfl, hrow, hv2.sm (S5.trans S6), Dt.newL nt (dt_rg j), by rw [nums_length]; omega, fun r H7 S7 hr7 => ?_⟩
        obtain ⟨p3, xs3, rfl, _, hp3, hs3⟩ := dt_lst hr7
        have l3 := hs3.length
        rw [cutR_length, nums_length] at l3
        refine ⟨_, .inl (SqL.of hp3), ?_⟩
        rw [l3]
        have hL7 := S7 _ _ (S6 _ _ hL)
        refine ⟨L, _, _, rfl, rfl, hL7, ?_, Ext.mut ((E5.trans (Ext.of S6)).trans (Ext.of S7)) rfl, ?_, _, _, _, _, _, rfl⟩
        · rw [List.length_map, List.length_range, sizeLine_eq]
          omega
        · rw [List.range_succ, List.map_append]
          exact upd_same
      · rintro σ' H5 ⟨E5, hL, u5, u6, u7, u8, u9, rfl⟩
        have S5 : Same H2 H5 := Ext.same ((Ext.of S4).trans E5) nL
        walk_at "lx"
        refine ⟨v1, row, rfl, hrow, h1, h4, hv1.sm S5, fun m H6 S6 hm => ?_⟩
        walk_at "lx"
        refine ⟨v1, row, rfl, hrow, h1, h4, hv1.sm (S5.trans S6), fun m2 H7 S7 hm2 => ?_⟩
        obtain rfl := isW_one hm hm2
        have hL7 := S7 _ _ (S6 _ _ hL)
        refine ⟨by decide, fun t1 n1 => ?_⟩
        have S8 := Same.new (o := .lst [.int m, .int m]) n1
        have eL : (List.range (Int.toNat 131)).map (fun n => V.int (lenR row n)) = ((List.range 131).map fun n => (lenR row n : Int)).map V.int := by rw [List.map_map]; rfl
        rw [eL] at hL7
        refine ⟨L, _, rfl, SqL.of (S8 _ _ hL7), by rw [List.length_map, List.length_range]; decide, fun k hk1 hk2 => ?_⟩
        obtain ⟨k, rfl, hk⟩ := isW_of hrow h1 (by decide) hk1 hk2
        obtain rfl := isW_one hm hk
        refine ⟨by decide, fun t2 n2 => ?_⟩
        refine ⟨t2, 2, _, rfl, rfl, upd_same, by decide, by decide, Nat.le_of_ble_eq_true rfl, fun t3 n3 => ?_⟩
        have d2 : ∀ (H : Hp) (t : Addr), H t = some (.lst [.int m, .int m]) → Dt N0 H (.ref t) (.lst [.int m, .int m]) := fun H t h => .lst (fun z => z) h (.cons (.int _) (.cons (.int _) .nil))
        have k2 : okP (2 * 41) 1 (.lst [.int m, .int m]) := okPs.list (okPs.all (ds := [.int m, .int m]) fun d hd => by
          simp only [List.mem_cons, List.not_mem_nil, or_false, or_self] at hd
          subst hd
          exact okP.int (by obtain ⟨⟨n, hn, rfl⟩, _⟩ := hm; have := lenR_le hrow h1 n; omega))
        have S9 := (Same.new (o := .lst [.int m]) n2).trans (Same.new (o := .lst [.int m, .int m]) n3)
        refine ne_sameP (d2 _ _ (S9 _ _ upd_same)) (d2 _ _ upd_same) k2 (by decide) ?_
        have S10 := (((S5.trans S6).trans S7).trans S8).trans S9
        walk_at "lx"
        refine forR (by decide) (by decide) (fun j σ H' => Same H2 H' ∧ ∃ u4 u5 u6 u7 u8 u9, σ = [some (.ref p), some (.int i), some v, some v1, u4, u5, u6, u7, u8, u9]) ⟨S10, _, _, _, _, _, _, rfl⟩ ?_ ?_
        · rintro j σ' H9 hj ⟨S11, u4, u5, u6, u7, u8, u9, rfl⟩
          have hp9 := hp.sm (S3.trans S11)
          walk_at "lx"
          refine ⟨p, _, rfl, hp9, ⟨by decide, by decide⟩, fun r1 H10 S12 hr0 hr1 => ?_⟩
          refine ⟨p, _, rfl, hp9.sm S12, ⟨by decide, by decide⟩, fun r2 H11 S13 hr2 hr3 => ?_⟩
          refine ⟨by decide, fun t4 n4 => ?_⟩
          have S14 := Same.snew (S12.trans S13) (o := .lst [.int 0, .int 1, .int r1, .int r2, .int 500]) n4
          refine ⟨p, _, rfl, hp9.sm S14, .inl ⟨t4, _, rfl, .inl upd_same, Nat.zero_lt_succ _, Nat.lt_of_lt_of_le (Nat.lt_succ_self 5) (by decide), fun x H12 S15 hx => ?_⟩⟩
          obtain ⟨n, rfl, hn⟩ : ∃ n : Nat, x = .int n ∧ n ≤ 500 := by
            obtain ⟨r1, rfl⟩ := Int.eq_ofNat_of_zero_le hr0
            obtain ⟨r2, rfl⟩ := Int.eq_ofNat_of_zero_le hr2
            simp only [List.mem_cons, List.not_mem_nil, or_false] at hx
            rcases hx with rfl | rfl | rfl | rfl | rfl
            · exact ⟨0, rfl, by omega⟩
            · exact ⟨1, rfl, by omega⟩
            · exact ⟨_, rfl, by omega⟩
            · exact ⟨_, rfl, by omega⟩
            · exact ⟨500, rfl, by omega⟩
          have S16 := S14.trans S15
          have S17 := S11.trans S16
          walk_at "lx"
          refine ⟨RgOk.of_le (by decide) (by omega) (by decide) (by omega), fun t nt => ?_⟩
          have S18 := Same.new (o := .lst (rgV 0 n)) nt
          refine ⟨v, _, row, nums n, rfl, hrow, hv2.sm (S17.trans S18), Dt.newL nt (dt_rg n), by rw [nums_length]; omega, fun r H13 S19 hr13 => ?_⟩
          obtain ⟨p3, xs3, rfl, _, hp3, hs3⟩ := dt_lst hr13
          refine .inl ⟨_, _, rfl, SqL.of hp3, fun t5 n5 => ?_⟩
          have hdue := Dt.newT n5 hs3
          have S20 := Same.snew (S18.trans S19) (o := .tup xs3) n5
          have S21 := S17.trans S20
          walk_at "lx"
          refine ⟨v1, row, n, rfl, hrow, h1, h4, hv1.sm S21, hn, fun ra Ha Sa ha => ?_⟩
          refine ⟨v1, row, n, rfl, hrow, h1, h4, hv1.sm (S21.trans Sa), hn, fun rb Hb Sb hb => ?_⟩
          refine ⟨by decide, fun t6 n6 => ?_⟩
          have S22 := Same.new (o := .lst [ra, rb]) n6
          have hplan : okPs (((cutR sgn row (nums n)).length) * 41) 0 (cutR sgn row (nums n)) := okPs.all fun d hd => (plan_pl hrow n d hd).okP (by omega)
          have hlen : (cutR sgn row (nums n)).length ≤ 500 := cutR_le sgn hrow _ (by rw [nums_length]; omega) (by omega)
          have k3 : okP (2 * (500 * 41 + 1)) 2 (.lst [.tup (cutR sgn row (nums n)), .tup (cutR sgn row (nums n))]) := okPs.list (okPs.all (ds := [.tup (cutR sgn row (nums n)), .tup (cutR sgn row (nums n))]) fun d hd => by
            simp only [List.mem_cons, List.not_mem_nil, or_false, or_self] at hd
            subst hd
            exact hplan.tuple.mono (by omega) (Nat.le_refl _))
          refine repr_of (d := .lst [.tup (cutR sgn row (nums n)), .tup (cutR sgn row (nums n))]) (Dt.newL n6 (.cons (ha.sm Sb) (.cons hb .nil))) k3 (by decide) (by decide) fun pd hpd => ?_
          have S23 := (Sa.trans Sb).trans S22
          refine ⟨by decide, fun t7 n7 => ?_⟩
          have hdue2 := hdue.sm S23
          refine repr_of (d := .lst [.tup (cutR sgn row (nums n)), .tup (cutR sgn row (nums n))]) (Dt.newL n7 (.cons hdue2 (.cons hdue2 .nil))) k3 (by decide) (by decide) fun pe hpe => ?_
          have S24 := Same.snew S23 (o := .lst [.ref t5, .ref t5]) n7
          obtain rfl : pd = pe := by rw [hpd] at hpe; exact Option.some.inj hpe
          refine ne_strs ?_
          have S25 := S21.trans S24
          walk_at "lx"
          have hT5 : upd (upd Hb t6 (.lst [ra, rb])) t7 (.lst [.ref t5, .ref t5]) t5 = some (.tup xs3) := S24 _ _ upd_same
          have hs5 := hs3.sm ((Same.new (o := .tup xs3) n5).trans S24)
          refine ite2 (fun c => ?_) (fun c => ⟨S25, _, _, _, _, _, _, rfl⟩)
          refine ⟨p, n, rfl, hp9.sm (S16.trans (S20.trans S24)), by omega, fun z H14 S26 hz1 hz2 => ⟨⟨_, rfl⟩, ?_⟩⟩
          have hzo : okText 200 z = true := okText_iff.mpr ⟨by rw [cd_len] at hz1; omega, hz2⟩
          have hs6 := hs5.sm S26
          have hl6 := hs6.length
          refine lcT (S26 _ _ hT5) (by omega) (fun i ds => ds = ((cutR sgn row (nums n)).take i).map (fillD (cd z))) rfl ?_ ?_
          · rintro D0 hD k ds H15 hk rfl hE x H16 ⟨rfl, hx⟩ Ky Kn hy hn
            obtain ⟨d, hd, hdx⟩ := hs6.getV hx
            have hdp := plan_pl hrow n d (List.mem_of_getElem? hd)
            walk_at "go"
            rcases hdp with ⟨a, han, rfl⟩ | ⟨c1, hc1, rfl⟩
            · cases hdx
              refine ⟨_, _, _, _, false, rfl, .ty _, .base (.int _), kit_ty (by decide +kernel), _, rfl, ?_⟩
              have ha : a < (cd z).length := by omega
              refine ⟨Nat.le_trans (okText_iff.mp hzo).1 (by decide), (cd z)[a], atI_nat (show (cd z)[a]? = _ by simp [ha]), ?_⟩
              refine hy _ _ (sgn (cd z)[a]) (Same.refl _) (.str _) rfl ?_
              have e : fillD (cd z) (pl a) = sgn (cd z)[a] := by
                show sgn ((cd z).getD ((a : Int).toNat) 0) = _
                rw [Int.toNat_natCast, List.getD_eq_getElem?_getD, List.getElem?_eq_getElem ha]
                rfl
              rw [← e]
              exact take_map (fillD (cd z)) hd
            · cases hdx
              refine ⟨_, _, _, _, true, rfl, .ty _, .base (.str _), kit_ty (by decide +kernel), _, rfl, ?_⟩
              exact hy _ _ (sgn c1) (Same.refl _) (.str _) rfl (take_map (fillD (cd z)) hd)
          · rintro D0 hD H15 ds rfl hlen2 hS hv15
            obtain ⟨p4, xs4, e0, _, hp4, hs4⟩ := dt_lst hv15
            cases e0
            rw [hl6, List.take_length] at hs4
            rw [← hz1, fill_plan] at hs4
            have e : (showC row (cd z)).map sgn = ((showC row (cd z)).map one).map D.str := by rw [List.map_map]; rfl
            rw [e] at hs4
            have e4 := hs4.strs_eq
            subst e4
            have hle : (showC row (cd z)).length ≤ 200 := cutR_le id hrow _ (by rw [cd_len]; exact (okText_iff.mp hzo).1) (by omega)
            refine ⟨_, _, _, rfl, rfl, .inl (SqL.of hp4), ?_, ?_⟩
            · rw [List.map_map, List.length_map]
              have e4 : (showC row (cd z)).map ((fun x => x.length) ∘ one) = (showC row (cd z)).map fun _ => 1 := rfl
              rw [e4, sum_ones]
              show _ + _ * 0 ≤ _
              omega
            · rw [U.join_one1]
              refine ⟨v1, row, z, rfl, hrow, h1, h4, hv1.sm ((S25.trans S26).trans hS), hzo, fun H17 S27 => ?_⟩
              refine ne_strs ?_
              walk_at "lx"
              exact ⟨((S25.trans S26).trans hS).trans S27, _, _, _, _, _, _, rfl⟩
        · rintro σ' H9 ⟨S11, u4, u5, u6, u7, u8, u9, rfl⟩
          exact ⟨S3.trans S11, _, _, _, _, _, _, _, _, _, rfl⟩
    · rintro σ' H' ⟨S0, u1, u2, u3, u4, u5, u6, u7, u8, u9, rfl⟩
      walk_at "go"
      exact q _ S0
end
end G


namespace G
open PySem PySem.Spec PyProof.Rows L2 U
section
variable {P : Program} {w : World} {K : PySem.W.Frag} {mg : Str → Option Value} {base : Heap}
theorem ok_law (T : Tx K mg) : FnG P w K mg base lv_law T.f_law T.d_law p_law (spLaw K) := by
  refine fnG_of T.F_law sc_law (fun vs H Q E h => ?_) (fun cdv A outer s H vs Q E hr hgd h => ?_)
  · obtain ⟨a, ns, rfl, _⟩ := h
    rfl
  · obtain ⟨a, ns, rfl, hS, hl, q⟩ := h
    refine ⟨_, (pss_one (ps_ret (pe_callB (cr_allK (K := K) rfl rfl) (by rfl) T.n_all (by decide +kernel) (pa_cons (pe_lc (own := [("_law_k", 1)]) rfl sc_law.nd (pi_range1 rfl T.n_range (pa_cons (pe_callB (call_maxU rfl) (by rfl) T.n_max (by decide +kernel) (pa_cons pe_int (pa_cons (pe_callB (call_minU rfl) (by rfl) T.n_min (by decide +kernel) (pa_cons (pe_callB (call_lenK (K := K) rfl) (by rfl) T.n_len (by decide +kernel) (pa_cons (pv 0) pa_nil)) (pa_cons pe_int pa_nil))) pa_nil))) pa_nil)) (blkOk_by (N := ["_law_script", "_law_k"]) (sc := L2.defScope s_law) (by decide +kernel)) (fun _ _ _ _ _ => (pg_name (i := 1) sc_law.nd rfl (by first | exact Or.inl rfl | exact Or.inr rfl))) (fun _ _ _ _ _ => pts_nil) (fun _ _ _ _ _ => (pe_callG (ok__law_right T) (hr.mono (by decide)) hgd rfl T.m__law_right T.F__law_right.kp T.b__law_right (pa_cons (pe_call (ok__law_pot T) (hr.mono (by decide)) rfl T.m__law_pot T.F__law_pot.kp T.b__law_pot .nil pass0 (pa_cons (pv 0) (pa_cons (pv 1) pa_nil))) pa_nil)))) pa_nil)))), ?_⟩
    walk_at "go"
    refine ⟨_, .inl hS, ?_⟩
    rw [List.length_map]
    refine lcR (by split <;> split <;> omega) (by split <;> split <;> omega) (fun i ds => ds = List.replicate i (.bl true)) rfl ?_ ?_
    · rintro D0 hD i ds H' hi rfl hE x H2 ⟨rfl, rfl⟩ Ky Kn hy hn
      walk_at "go"
      have hS2 : SqL K H2 a (ns.map V.int) := sql_sm hS (hE.same hD)
      refine ⟨a, ns, i, rfl, hS2, hl, (by revert hi; split <;> split <;> omega), fun p H3 e3 hp => ?_⟩
      walk_at "go"
      exact ⟨p, rfl, hp, fun H4 e4 => hy _ _ (.bl true) (e3.trans e4) (.bl _) rfl (show _ ++ _ = _ by rw [← List.replicate_succ'])⟩
    · rintro D0 hD H' ds rfl hlen hS' hv
      obtain ⟨p3, xs3, e0, _, hp3, hs3⟩ := dt_lst hv
      cases e0
      rw [show ∀ n, List.replicate n (D.bl true) = (List.replicate n true).map D.bl from fun n => (List.map_replicate).symm] at hs3
      have e3 := hs3.bls_eq
      subst e3
      refine ⟨_, _, rfl, SqL.of hp3, ?_⟩
      rw [show ∀ n, (List.replicate n true).all id = true from fun n => by simp]
      exact q _
end
end G

namespace G
open PySem PySem.Spec PyProof.Rows L2 U
theorem law_end {P : Program} {w : World} {K : PySem.W.Frag} {h : Heap} {mg : Str → Option Value} {fa fl : Addr} (X : K.In h) (G0 : h.Ns mainGlobals mg) (hmg : mg "law" = some (.ref fa)) (e : ∃ T : Tx K mg, T.f_law = fl) :
    ∃ fd : FuncData, (∀ (t : Shared) (u : Value), BindsTo t fd ⟨[u], []⟩ [("_law_script", u)]) ∧ ∀ base : Heap, K.In base → base.Ns mainGlobals mg → FnG P w K mg base lv_law fa fd ["_law_script"] (spLaw K) := by
  obtain ⟨T, _⟩ := e
  have q := hmg.symm.trans T.m_law
  cases q
  refine ⟨T.d_law, ?_, fun base _ _ => ok_law T⟩
  obtain ⟨oc, od, kV, doc, pm, an, cdv, ct, osl, efd, lk, hcd⟩ := T.F_law.ex
  intro t u
  rw [efd]
  exact .of_eq rfl
end G

open PySem PySem.W PyProof.Rows
set_option maxRecDepth 100000 in
set_option maxHeartbeats 0 in
theorem PySem.Challenge.cw_shownshort_k04_whole_plans_and_widths_holds : PySem.Challenge.rw_shownshort_k04_whole_plans_and_widths.Holds := by
  w_on; o_law; k_head; (case hw => w_witness2)
  k_fill
  refine U.walkG (l := PySem.Challenge.rw_shownshort_k04_whole_plans_and_widths) (k := G.lv_law) (x := "_law_script") rfl rfl ⟨rfl, by decide, by decide⟩ (fun w h Y => PySem.W.kIn_of Y) ?F
  case F =>
    intro w mg fa h KX G0 hmg
    refine' G.law_end KX G0 hmg (G.all_mk KX G0 ?x_n_abs ?x_n_all ?x_n_bool ?x_n_divmod ?x_n_enumerate ?x_n_int ?x_n_isinstance ?x_n_len ?x_n_list ?x_n_max ?x_n_min ?x_n_range ?x_n_repr ?x_n_str ?x_n_tuple ?x_k_MOST_SIGNS ?x_k_MOST_MARK ?x_k_MOST_ROW ?x_k_MOST_TEXT ?x_k_MOST_LENGTH ?x_k_SIGNS ?x_C_Shortener ?x_pg_Shortener ?x_hd_Shortener ?x_po_Shortener ?x_sa_Shortener ?x_mk_Shortener ?x_kc_Shortener ?x_ha_Shortener ?x_hn_Shortener ?x_ht_Shortener ?x_hm_Shortener ?x_me_Shortener ?x_na_Shortener_limit ?x_na_Shortener_head ?x_na_Shortener_tail ?x_na_Shortener_mark ?x_na_Shortener_told ?x_a_Shortener___init__ ?x_i_Shortener___init__ ?x_l_Shortener___init__ ?x_c_Shortener___init__ ?x_k_Shortener___init__ ?x_a_Shortener_cut ?x_i_Shortener_cut ?x_l_Shortener_cut ?x_c_Shortener_cut ?x_k_Shortener_cut ?x_a_Shortener___eq__ ?x_i_Shortener___eq__ ?x_l_Shortener___eq__ ?x_c_Shortener___eq__ ?x_k_Shortener___eq__ ?x_a_Shortener___repr__ ?x_i_Shortener___repr__ ?x_l_Shortener___repr__ ?x_c_Shortener___repr__ ?x_k_Shortener___repr__ ?x_a_is_integer ?x_l_is_integer ?x_c_is_integer ?x_k_is_integer ?x_a_is_text ?x_l_is_text ?x_c_is_text ?x_k_is_text ?x_a_check_text ?x_l_check_text ?x_c_check_text ?x_k_check_text ?x_a_is_length ?x_l_is_length ?x_c_is_length ?x_k_is_length ?x_a_check_length ?x_l_check_length ?x_c_check_length ?x_k_check_length ?x_a_check_number ?x_l_check_number ?x_c_check_number ?x_k_check_number ?x_a_check_row ?x_l_check_row ?x_c_check_row ?x_k_check_row ?x_a_cut_by ?x_l_cut_by ?x_c_cut_by ?x_k_cut_by ?x_a_plan_of ?x_l_plan_of ?x_c_plan_of ?x_k_plan_of ?x_a_show ?x_l_show ?x_c_show ?x_k_show ?x_a_plan ?x_l_plan ?x_c_plan ?x_k_plan ?x_a_widest ?x_l_widest ?x_c_widest ?x_k_widest ?x_a__law_pot ?x_l__law_pot ?x_c__law_pot ?x_k__law_pot ?x_a__law_ladle ?x_l__law_ladle ?x_c__law_ladle ?x_k__law_ladle ?x_a__law_one_of ?x_l__law_one_of ?x_c__law_one_of ?x_k__law_one_of ?x_a__law_told ?x_l__law_told ?x_c__law_told ?x_k__law_told ?x_a__law_tolds ?x_l__law_tolds ?x_c__law_tolds ?x_k__law_tolds ?x_a__law_made ?x_l__law_made ?x_c__law_made ?x_k__law_made ?x_a__law_cut ?x_l__law_cut ?x_c__law_cut ?x_k__law_cut ?x_a__law_line ?x_l__law_line ?x_c__law_line ?x_k__law_line ?x_a__law_right ?x_l__law_right ?x_c__law_right ?x_k__law_right ?x_a_law ?x_l_law ?x_c_law ?x_k_law)
    (case x_n_abs => k_is)
    (case x_n_all => k_is)
    (case x_n_bool => k_is)
    (case x_n_divmod => k_is)
    (case x_n_enumerate => k_is)
    (case x_n_int => k_is)
    (case x_n_isinstance => k_is)
    (case x_n_len => k_is)
    (case x_n_list => k_is)
    (case x_n_max => k_is)
    (case x_n_min => k_is)
    (case x_n_range => k_is)
    (case x_n_repr => k_is)
    (case x_n_str => k_is)
    (case x_n_tuple => k_is)
    (case x_k_MOST_SIGNS => k_is)
    (case x_k_MOST_MARK => k_is)
    (case x_k_MOST_ROW => k_is)
    (case x_k_MOST_TEXT => k_is)
    (case x_k_MOST_LENGTH => k_is)
    (case x_k_SIGNS => k_is)
    (case x_C_Shortener => k_is)
    (case x_pg_Shortener => k_is)
    (case x_hd_Shortener => k_is)
    (case x_po_Shortener => k_is)
    (case x_sa_Shortener => k_is)
    (case x_mk_Shortener => k_is)
    (case x_kc_Shortener => k_is)
    (case x_ha_Shortener => k_is)
    (case x_hn_Shortener => k_is)
    (case x_ht_Shortener => k_is)
    (case x_hm_Shortener => k_is)
    (case x_me_Shortener => first | rfl | k_is)
    (case x_na_Shortener_limit => k_is)
    (case x_na_Shortener_head => k_is)
    (case x_na_Shortener_tail => k_is)
    (case x_na_Shortener_mark => k_is)
    (case x_na_Shortener_told => k_is)
    (case x_a_Shortener___init__ => k_is)
    (case x_i_Shortener___init__ => k_is)
    (case x_l_Shortener___init__ => k_is)
    (case x_c_Shortener___init__ => k_is)
    (case x_k_Shortener___init__ => k_is)
    (case x_a_Shortener_cut => k_is)
    (case x_i_Shortener_cut => k_is)
    (case x_l_Shortener_cut => k_is)
    (case x_c_Shortener_cut => k_is)
    (case x_k_Shortener_cut => k_is)
    (case x_a_Shortener___eq__ => k_is)
    (case x_i_Shortener___eq__ => k_is)
    (case x_l_Shortener___eq__ => k_is)
    (case x_c_Shortener___eq__ => k_is)
    (case x_k_Shortener___eq__ => k_is)
    (case x_a_Shortener___repr__ => k_is)
    (case x_i_Shortener___repr__ => k_is)
    (case x_l_Shortener___repr__ => k_is)
    (case x_c_Shortener___repr__ => k_is)
    (case x_k_Shortener___repr__ => k_is)
    (case x_a_is_integer => k_is)
    (case x_l_is_integer => k_is)
    (case x_c_is_integer => k_is)
    (case x_k_is_integer => k_is)
    (case x_a_is_text => k_is)
    (case x_l_is_text => k_is)
    (case x_c_is_text => k_is)
    (case x_k_is_text => k_is)
    (case x_a_check_text => k_is)
    (case x_l_check_text => k_is)
    (case x_c_check_text => k_is)
    (case x_k_check_text => k_is)
    (case x_a_is_length => k_is)
    (case x_l_is_length => k_is)
    (case x_c_is_length => k_is)
    (case x_k_is_length => k_is)
    (case x_a_check_length => k_is)
    (case x_l_check_length => k_is)
    (case x_c_check_length => k_is)
    (case x_k_check_length => k_is)
    (case x_a_check_number => k_is)
    (case x_l_check_number => k_is)
    (case x_c_check_number => k_is)
    (case x_k_check_number => k_is)
    (case x_a_check_row => k_is)
    (case x_l_check_row => k_is)
    (case x_c_check_row => k_is)
    (case x_k_check_row => k_is)
    (case x_a_cut_by => k_is)
    (case x_l_cut_by => k_is)
    (case x_c_cut_by => k_is)
    (case x_k_cut_by => k_is)
    (case x_a_plan_of => k_is)
    (case x_l_plan_of => k_is)
    (case x_c_plan_of => k_is)
    (case x_k_plan_of => k_is)
    (case x_a_show => k_is)
    (case x_l_show => k_is)
    (case x_c_show => k_is)
    (case x_k_show => k_is)
    (case x_a_plan => k_is)
    (case x_l_plan => k_is)
    (case x_c_plan => k_is)
    (case x_k_plan => k_is)
    (case x_a_widest => k_is)
    (case x_l_widest => k_is)
    (case x_c_widest => k_is)
    (case x_k_widest => k_is)
    (case x_a__law_pot => k_is)
    (case x_l__law_pot => k_is)
    (case x_c__law_pot => k_is)
    (case x_k__law_pot => k_is)
    (case x_a__law_ladle => k_is)
    (case x_l__law_ladle => k_is)
    (case x_c__law_ladle => k_is)
    (case x_k__law_ladle => k_is)
    (case x_a__law_one_of => k_is)
    (case x_l__law_one_of => k_is)
    (case x_c__law_one_of => k_is)
    (case x_k__law_one_of => k_is)
    (case x_a__law_told => k_is)
    (case x_l__law_told => k_is)
    (case x_c__law_told => k_is)
    (case x_k__law_told => k_is)
    (case x_a__law_tolds => k_is)
    (case x_l__law_tolds => k_is)
    (case x_c__law_tolds => k_is)
    (case x_k__law_tolds => k_is)
    (case x_a__law_made => k_is)
    (case x_l__law_made => k_is)
    (case x_c__law_made => k_is)
    (case x_k__law_made => k_is)
    (case x_a__law_cut => k_is)
    (case x_l__law_cut => k_is)
    (case x_c__law_cut => k_is)
    (case x_k__law_cut => k_is)
    (case x_a__law_line => k_is)
    (case x_l__law_line => k_is)
    (case x_c__law_line => k_is)
    (case x_k__law_line => k_is)
    (case x_a__law_right => k_is)
    (case x_l__law_right => k_is)
    (case x_c__law_right => k_is)
    (case x_k__law_right => k_is)
    (case x_a_law => k_is)
    (case x_l_law => k_is)
    (case x_c_law => k_is)
    (case x_k_law => k_is)
