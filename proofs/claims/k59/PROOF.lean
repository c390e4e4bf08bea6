import PyProof.Rows.All
import Wide.All
import OpenK.AllK
import Wide.FinOn
import PyProof.ReprRoads
import HandS.ForMost
import HandS.ForExc
import HandS.IsInst
import HandS.Codes
import HandS.Star
import HandS.Conv
import HandS.Wide
import HandS.WideBits
import HandS.FStr
import HandS.MakeKwOnly
import HandS.Defaults
import HandS.Flow
import HandS.Style
import KE.GoesEnum
import PyProof.ReprLen
import HandS.TupMul
import PySem.Challenge.RW_shownshort_k59_whole_bases_by_shorteners
set_option Elab.async false
set_option linter.all false
set_option maxRecDepth 100000
set_option maxHeartbeats 4000000
/-! U1: data over the heap, heaps that grow, promises of defs that may ask what shows are under way. -/
namespace U
open PySem PySem.Spec PyProof.Rows L2

/-! ### data -/
inductive D where
  | non | bl (b : Bool) | int (i : Int) | str (x : Str) | lst (xs : List D) | tup (xs : List D) | ins (C : Addr) (ns : List Str) (xs : List D)

mutual
/-- v is the datum d in H; no object of it stands in S -/
inductive Dt (S : Addr → Prop) (H : Hp) : V → D → Prop
  | non : Dt S H .non .non
  | bl (b : Bool) : Dt S H (.bl b) (.bl b)
  | int (i : Int) : Dt S H (.int i) (.int i)
  | str (x : Str) : Dt S H (.str x) (.str x)
  | lst {a : Addr} {xs : List V} {ds : List D} : ¬ S a → H a = some (.lst xs) → DtA S H xs ds → Dt S H (.ref a) (.lst ds)
  | tup {a : Addr} {xs : List V} {ds : List D} : ¬ S a → H a = some (.tup xs) → DtA S H xs ds → Dt S H (.ref a) (.tup ds)
  | ins {a C dx : Addr} {fs : List (Str × V)} {ns : List Str} {ds : List D} : ¬ S a → H a = some (.ins C dx fs) → fs.map (·.1) = ns → DtA S H (fs.map (·.2)) ds → Dt S H (.ref a) (.ins C ns ds)
inductive DtA (S : Addr → Prop) (H : Hp) : List V → List D → Prop
  | nil : DtA S H [] []
  | cons {v : V} {vs : List V} {d : D} {ds : List D} : Dt S H v d → DtA S H vs ds → DtA S H (v :: vs) (d :: ds)
end
/-- nothing -/
abbrev N0 : Addr → Prop := fun _ => False
/-- H' holds all that H holds, but what stands in S -/
def Ext (S : Addr → Prop) (H H' : Hp) : Prop := ∀ b o, ¬ S b → H b = some o → H' b = some o

section
variable {S S' : Addr → Prop} {H H1 H2 H' : Hp}
theorem Ext.refl (H : Hp) : Ext S H H := fun _ _ _ h => h
theorem Ext.trans (a : Ext S H H1) (b : Ext S H1 H2) : Ext S H H2 := fun c o n h => b c o n (a c o n h)
theorem Ext.of (e : Same H H') : Ext S H H' := fun b o _ h => e b o h
theorem Same.new {p : Addr} {o : HO} (h : H p = none) : Same H (upd H p o) := fun b u e => by
  rw [upd_ne (ne_of_none e h)]
  exact e
theorem Same.snew {p : Addr} {o : HO} (e : Same H H1) (h : H1 p = none) : Same H (upd H1 p o) := e.trans (Same.new h)
theorem Ext.new {p : Addr} {o : HO} (e : Ext S H H1) (h : H1 p = none) : Ext S H (upd H1 p o) := e.trans (Ext.of (Same.new h))
theorem Ext.mut {p : Addr} {o : HO} (e : Ext S H H1) (h : S p) : Ext S H (upd H1 p o) := fun b u n hb => by
  rw [upd_ne (fun z => n (by rw [z]; exact h))]
  exact e b u n hb
theorem Ext.less (e : Ext S H H1) (h : ∀ a, S a → S' a) : Ext S' H H1 := fun b o n hb => e b o (fun z => n (h b z)) hb
theorem Same.ext0 (e : Ext N0 H H1) : Same H H1 := fun b o h => e b o (fun z => z) h
/-- all but one that was not there -/
theorem Ext.same {l : Addr} (e : Ext (fun a => a = l) H H1) (hl : H l = none) : Same H H1 := fun b o h => e b o (fun z => by rw [z, hl] at h; cases h) h

mutual
theorem Dt.mono (e : Ext S H H') : ∀ (d : D) {v : V}, Dt S H v d → Dt S H' v d
  | .non, _, h => by cases h; exact .non
  | .bl b, _, h => by cases h; exact .bl b
  | .int i, _, h => by cases h; exact .int i
  | .str x, _, h => by cases h; exact .str x
  | .lst ds, _, h => by
    cases h with
    | lst n ha hs => exact .lst n (e _ _ n ha) (DtA.mono e ds hs)
  | .tup ds, _, h => by
    cases h with
    | tup n ha hs => exact .tup n (e _ _ n ha) (DtA.mono e ds hs)
  | .ins C ns ds, _, h => by
    cases h with
    | ins n ha hn hs => exact .ins n (e _ _ n ha) hn (DtA.mono e ds hs)
theorem DtA.mono (e : Ext S H H') : ∀ (ds : List D) {vs : List V}, DtA S H vs ds → DtA S H' vs ds
  | [], _, h => by cases h; exact .nil
  | d :: ds, _, h => by
    cases h with
    | cons h1 h2 => exact .cons (Dt.mono e d h1) (DtA.mono e ds h2)
end
mutual
/-- another set of what may change -/
theorem Dt.set (f : ∀ a, ¬ S a → H a ≠ none → ¬ S' a) : ∀ (d : D) {v : V}, Dt S H v d → Dt S' H v d
  | .non, _, h => by cases h; exact .non
  | .bl b, _, h => by cases h; exact .bl b
  | .int i, _, h => by cases h; exact .int i
  | .str x, _, h => by cases h; exact .str x
  | .lst ds, _, h => by
    cases h with
    | lst n ha hs => exact .lst (f _ n (by rw [ha]; exact fun z => nomatch z)) ha (DtA.set f ds hs)
  | .tup ds, _, h => by
    cases h with
    | tup n ha hs => exact .tup (f _ n (by rw [ha]; exact fun z => nomatch z)) ha (DtA.set f ds hs)
  | .ins C ns ds, _, h => by
    cases h with
    | ins n ha hn hs => exact .ins (f _ n (by rw [ha]; exact fun z => nomatch z)) ha hn (DtA.set f ds hs)
theorem DtA.set (f : ∀ a, ¬ S a → H a ≠ none → ¬ S' a) : ∀ (ds : List D) {vs : List V}, DtA S H vs ds → DtA S' H vs ds
  | [], _, h => by cases h; exact .nil
  | d :: ds, _, h => by
    cases h with
    | cons h1 h2 => exact .cons (Dt.set f d h1) (DtA.set f ds h2)
end
theorem Dt.go {d : D} {v : V} (h : Dt S H v d) (e : Ext S H H') : Dt S H' v d := Dt.mono e d h
theorem Dt.sm {d : D} {v : V} (h : Dt S H v d) (e : Same H H') : Dt S H' v d := Dt.mono (Ext.of e) d h
theorem DtA.go {d : List D} {v : List V} (h : DtA S H v d) (e : Ext S H H') : DtA S H' v d := DtA.mono e d h
theorem DtA.sm {d : List D} {v : List V} (h : DtA S H v d) (e : Same H H') : DtA S H' v d := DtA.mono (Ext.of e) d h
/-- a new object may change from now on -/
theorem Dt.fresh {d : D} {v : V} {l : Addr} (h : Dt S H v d) (hl : H l = none) : Dt (fun a => S a ∨ a = l) H v d :=
  Dt.set (fun a n k z => z.elim n fun q => k (by rw [q]; exact hl)) d h
theorem Dt.fresh1 {d : D} {v : V} {l : Addr} (h : Dt N0 H v d) (hl : H l = none) : Dt (fun a => a = l) H v d :=
  Dt.set (fun a _ k z => k (by rw [z]; exact hl)) d h
theorem DtA.fresh1 {d : List D} {v : List V} {l : Addr} (h : DtA N0 H v d) (hl : H l = none) : DtA (fun a => a = l) H v d :=
  DtA.set (fun a _ k z => k (by rw [z]; exact hl)) d h
/-- nothing changes any more -/
theorem Dt.n0 {d : D} {v : V} (h : Dt S H v d) : Dt N0 H v d := Dt.set (fun _ _ _ z => z) d h
theorem DtA.n0 {d : List D} {v : List V} (h : DtA S H v d) : DtA N0 H v d := DtA.set (fun _ _ _ z => z) d h
theorem DtA.length : ∀ {vs : List V} {ds : List D}, DtA S H vs ds → vs.length = ds.length
  | _, _, .nil => rfl
  | _, _, .cons _ t => congrArg Nat.succ (DtA.length t)
theorem DtA.append : ∀ {vs ws : List V} {ds es : List D}, DtA S H vs ds → DtA S H ws es → DtA S H (vs ++ ws) (ds ++ es)
  | _, _, _, _, .nil, k => k
  | _, _, _, _, .cons h t, k => .cons h (DtA.append t k)
theorem DtA.snoc {vs : List V} {ds : List D} {v : V} {d : D} (h : DtA S H vs ds) (k : Dt S H v d) : DtA S H (vs ++ [v]) (ds ++ [d]) := h.append (.cons k .nil)
theorem DtA.get : ∀ {vs : List V} {ds : List D} {i : Nat} {d : D}, DtA S H vs ds → ds[i]? = some d → ∃ v, vs[i]? = some v ∧ Dt S H v d
  | _, _, _, _, .nil, e => by simp at e
  | _, _, 0, _, .cons h _, e => by
    simp at e
    subst e
    exact ⟨_, rfl, h⟩
  | _, _, i + 1, d, .cons _ t, e => by
    obtain ⟨v, h1, h2⟩ := DtA.get (i := i) (d := d) t (by simpa using e)
    exact ⟨v, by simpa using h1, h2⟩
theorem DtA.getV : ∀ {vs : List V} {ds : List D} {i : Nat} {v : V}, DtA S H vs ds → vs[i]? = some v → ∃ d, ds[i]? = some d ∧ Dt S H v d
  | _, _, _, _, .nil, e => by simp at e
  | _, _, 0, _, .cons h _, e => by
    simp at e
    subst e
    exact ⟨_, rfl, h⟩
  | _, _, i + 1, d, .cons _ t, e => by
    obtain ⟨v, h1, h2⟩ := DtA.getV (i := i) (v := d) t (by simpa using e)
    exact ⟨v, by simpa using h1, h2⟩
theorem DtA.take : ∀ {vs : List V} {ds : List D} (n : Nat), DtA S H vs ds → DtA S H (vs.take n) (ds.take n)
  | _, _, 0, _ => .nil
  | _, _, _ + 1, .nil => .nil
  | _, _, n + 1, .cons h t => .cons h (DtA.take n t)
theorem DtA.drop : ∀ {vs : List V} {ds : List D} (n : Nat), DtA S H vs ds → DtA S H (vs.drop n) (ds.drop n)
  | _, _, 0, h => h
  | _, _, _ + 1, .nil => .nil
  | _, _, n + 1, .cons _ t => DtA.drop n t
theorem DtA.reverse : ∀ {vs : List V} {ds : List D}, DtA S H vs ds → DtA S H vs.reverse ds.reverse
  | _, _, .nil => .nil
  | _, _, .cons h t => by
    rw [List.reverse_cons, List.reverse_cons]
    exact (DtA.reverse t).snoc h
theorem DtA.strs : ∀ (l : List Str), DtA S H (l.map V.str) (l.map D.str)
  | [] => .nil
  | x :: l => .cons (.str x) (DtA.strs l)
theorem DtA.ints : ∀ (l : List Int), DtA S H (l.map V.int) (l.map D.int)
  | [] => .nil
  | x :: l => .cons (.int x) (DtA.ints l)
theorem DtA.bls : ∀ (l : List Bool), DtA S H (l.map V.bl) (l.map D.bl)
  | [] => .nil
  | x :: l => .cons (.bl x) (DtA.bls l)
theorem DtA.strs_eq : ∀ {vs : List V} {l : List Str}, DtA S H vs (l.map D.str) → vs = l.map V.str
  | _, [], h => by cases h; rfl
  | _, x :: l, h => by
    cases h with
    | cons h1 h2 =>
      cases h1
      rw [DtA.strs_eq h2]
      rfl
theorem DtA.ints_eq : ∀ {vs : List V} {l : List Int}, DtA S H vs (l.map D.int) → vs = l.map V.int
  | _, [], h => by cases h; rfl
  | _, x :: l, h => by
    cases h with
    | cons h1 h2 =>
      cases h1
      rw [DtA.ints_eq h2]
      rfl
theorem DtA.bls_eq : ∀ {vs : List V} {l : List Bool}, DtA S H vs (l.map D.bl) → vs = l.map V.bl
  | _, [], h => by cases h; rfl
  | _, x :: l, h => by
    cases h with
    | cons h1 h2 =>
      cases h1
      rw [DtA.bls_eq h2]
      rfl
end

/-! ### data in which no list stands -/
mutual
def D.flat : D → Bool
  | .lst _ => false
  | .tup ds => D.flats ds
  | .ins _ _ ds => D.flats ds
  | _ => true
def D.flats : List D → Bool
  | [] => true
  | d :: ds => D.flat d && D.flats ds
end
mutual
theorem Dt.nl {H : Hp} {l : Addr} {xs : List V} (hl : H l = some (.lst xs)) : ∀ (d : D) {v : V}, D.flat d = true → Dt N0 H v d → Dt (fun a => a = l) H v d
  | .non, _, _, h => by cases h; exact .non
  | .bl b, _, _, h => by cases h; exact .bl b
  | .int i, _, _, h => by cases h; exact .int i
  | .str x, _, _, h => by cases h; exact .str x
  | .lst ds, _, f, _ => by rw [D.flat] at f; cases f
  | .tup ds, _, f, h => by
    rw [D.flat] at f
    cases h with
    | tup n ha hs => exact .tup (fun z => by rw [z, hl] at ha; cases ha) ha (DtA.nl hl ds f hs)
  | .ins C ns ds, _, f, h => by
    rw [D.flat] at f
    cases h with
    | ins n ha hn hs => exact .ins (fun z => by rw [z, hl] at ha; cases ha) ha hn (DtA.nl hl ds f hs)
theorem DtA.nl {H : Hp} {l : Addr} {xs : List V} (hl : H l = some (.lst xs)) : ∀ (ds : List D) {vs : List V}, D.flats ds = true → DtA N0 H vs ds → DtA (fun a => a = l) H vs ds
  | [], _, _, h => by cases h; exact .nil
  | d :: ds, _, f, h => by
    rw [D.flats, Bool.and_eq_true] at f
    cases h with
    | cons h1 h2 => exact .cons (Dt.nl hl d f.1 h1) (DtA.nl hl ds f.2 h2)
end
theorem flats_map {α : Type} {f : α → D} (h : ∀ x, D.flat (f x) = true) : ∀ l : List α, D.flats (l.map f) = true
  | [] => by rw [List.map_nil, D.flats]
  | x :: l => by rw [List.map_cons, D.flats, h x, flats_map h l]; rfl
theorem flat_of_mem : ∀ {l : List D}, (∀ d ∈ l, D.flat d = true) → D.flats l = true
  | [], _ => by rw [D.flats]
  | d :: l, h => by rw [D.flats, h d List.mem_cons_self, flat_of_mem (fun e he => h e (List.mem_cons_of_mem _ he))]; rfl
theorem mem_of_flats : ∀ {l : List D}, D.flats l = true → ∀ d ∈ l, D.flat d = true
  | d :: l, h, e, he => by
    rw [D.flats, Bool.and_eq_true] at h
    rcases List.mem_cons.mp he with z | z
    · rw [z]
      exact h.1
    · exact mem_of_flats h.2 e z

/-! ### data without instances, as the library's -/
mutual
def D.py : D → Option PyData
  | .non => some .none
  | .bl b => some (.bool b)
  | .int i => some (.int i)
  | .str x => some (.str x)
  | .lst ds => (D.pys ds).map .list
  | .tup ds => (D.pys ds).map .tuple
  | .ins _ _ _ => none
def D.pys : List D → Option (List PyData)
  | [] => some []
  | d :: ds => match D.py d, D.pys ds with
    | some p, some q => some (p :: q)
    | _, _ => none
end
mutual
theorem Dt.dp {K : PySem.W.Frag} {S : Addr → Prop} {H : Hp} : ∀ (d : D) {v : V} {p : PyData}, Dt S H v d → D.py d = some p → Dp K H v p
  | .non, _, _, h, e => by cases h; cases e; exact .non
  | .bl b, _, _, h, e => by cases h; cases e; exact .bl b
  | .int i, _, _, h, e => by cases h; cases e; exact .int i
  | .str x, _, _, h, e => by cases h; cases e; exact .str x
  | .lst ds, _, _, h, e => by
    cases h with
    | lst n ha hs =>
      rw [D.py] at e
      cases q : D.pys ds with
      | none => rw [q] at e; cases e
      | some l =>
        rw [q] at e
        cases e
        exact .lst (SqL.of ha) (DtA.dp ds hs q)
  | .tup ds, _, _, h, e => by
    cases h with
    | tup n ha hs =>
      rw [D.py] at e
      cases q : D.pys ds with
      | none => rw [q] at e; cases e
      | some l =>
        rw [q] at e
        cases e
        exact .tup (SqT.of ha) (DtA.dp ds hs q)
  | .ins C ns ds, _, _, h, e => by rw [D.py] at e; cases e
theorem DtA.dp {K : PySem.W.Frag} {S : Addr → Prop} {H : Hp} : ∀ (ds : List D) {vs : List V} {ps : List PyData}, DtA S H vs ds → D.pys ds = some ps → DpAll K H vs ps
  | [], _, _, h, e => by cases h; rw [D.pys] at e; cases e; exact .nil
  | d :: ds, _, _, h, e => by
    cases h with
    | cons h1 h2 =>
      rw [D.pys] at e
      cases q1 : D.py d with
      | none => rw [q1] at e; cases e
      | some p =>
        cases q2 : D.pys ds with
        | none => rw [q1, q2] at e; cases e
        | some ps =>
          rw [q1, q2] at e
          cases e
          exact .cons (Dt.dp d h1 q1) (DtA.dp ds h2 q2)
end
theorem pys_strs : ∀ l : List Str, D.pys (l.map D.str) = some (l.map PyData.str)
  | [] => by rw [List.map_nil, D.pys]; rfl
  | x :: l => by rw [List.map_cons, D.pys, pys_strs l, D.py]; rfl
theorem pys_ints : ∀ l : List Int, D.pys (l.map D.int) = some (l.map PyData.int)
  | [] => by rw [List.map_nil, D.pys]; rfl
  | x :: l => by rw [List.map_cons, D.pys, pys_ints l, D.py]; rfl
end U

/-! U2: defs that may ask which shows are under way (FnG), the law's end over them, repr, calls by keywords alone. -/
namespace U
open PySem PySem.Spec PyProof.Rows L2

/-- a def's promise where no show is under way -/
structure FnG (P : Program) (w : World) (K : PySem.W.Frag) (mg : Str → Option Value) (base : Heap) (k : Nat) (f : Addr) (fd : FuncData) (ps : List Str) (sp : Sp) : Prop where
  len : ∀ vs H Q E, sp vs H Q E → vs.length = ps.length
  run : ∀ (A : Around) (outer : List Env) (s : Shared) (H : Hp) (args : Args) (us : List Value) (vs : List V) (Q : VK) (E : XK), Room k A → A.guards = some [] →
    Env0 P w K mg base A outer s H → BindsTo s fd args (ps.zip us) → Vals vs us → sp vs H Q E → codeAny (model P w) A (.call (.ref f) args) (CR L2.CX0 outer P w H s Q E) s

section
variable {P : Program} {w : World} {K : PySem.W.Frag} {mg : Str → Option Value} {base : Heap} {x qual : Str} {st : Stmt} {f : Addr} {fd : FuncData} {N ps : List Str} {k : Nat} {sp : Sp}
/-- by its body -/
theorem fnG_of (F : L2.Fun K x qual st f fd) (S : FnScope N ps (L2.defScope st)) (len : ∀ vs H Q E, sp vs H Q E → vs.length = ps.length)
    (hb : ∀ (cdv : Value) (A : Around) (outer : List Env) (s : Shared) (H : Hp) (vs : List V) (Q : VK) (E : XK), Room k (A.deeper (envOfC qual (L2.defScope st) s.heap.objs.size f cdv)) → A.guards = some [] → sp vs H Q E →
      ∃ t, PSs (cxOf L2.CX0 P w K mg base N qual (L2.defScope st) f cdv A outer s H E).nox (L2.defBody st) t ∧ t { nx := fun _ H' => Q .non H', rt := Q } (start N vs) H) :
    FnG P w K mg base (k + 1) f fd ps sp := by
  obtain ⟨oc, od, kV, doc, pm, an, cdv, ct, osl, rfl, lk, hcd⟩ := F.ex
  refine ⟨len, fun A outer s H args us vs Q E hr hg e0 hbd r hsp => ?_⟩
  have hl : vs.length = ps.length := len _ _ _ _ hsp
  have KX : K.In s.heap := e0.mod.kin.keeps (fun b o e => (e0.bs b o e).1)
  have lim : s.heap.NoLimit := e0.mod.nolimit.keeps (fun b o e => (e0.bs b o e).1)
  have kinds : ∀ y ∈ ps.zip us, (L2.defScope st).names.lookup y.1 = some .local ∨ ((L2.defScope st).names.lookup y.1 = some .cell ∧ ((cellsFrom (s.heap.objs.size + 1) (L2.defScope st).names []).lookup y.1).isSome = true) := by
    rintro ⟨n, v⟩ hy
    rcases S.par n (List.of_mem_zip hy).1 with q | q
    · exact Or.inl q
    · exact Or.inr ⟨q, PySem.W.cellsFrom_some _ _ _ (Or.inl q)⟩
  have lkd := KX _ _ lk
  have crec := PySem.W.codeRec_of KX hcd
  refine codeAny_call_function hr.depth lkd rfl S.co S.gen rfl crec (hbd _ _ _ _ ?_)
  refine wpAny_newFunctionEnv_cells S.kind kinds (fun env he s1 z => ?_)
  subst he
  refine ⟨lim.keeps z.toInCall.keep, codeAny_func ?_⟩
  have hr1 := hr.deeper (envOfC qual (L2.defScope st) s.heap.objs.size f cdv)
  obtain ⟨t, ht0, hq⟩ := hb cdv A outer s H vs Q E hr1 hg hsp
  have ht := ht0.nox
  have I := inv_start (CX := L2.CX0) (E := E) S hr.hd e0 hl r z
  have go := ht.run [] s1 (start N vs) H _ I hq
  refine wpAny_mono go ?_ (fun e s' hs => hs)
  intro fl s' hs
  cases fl with
  | next =>
    obtain ⟨σ', H', J, q⟩ := hs
    exact ⟨V.non, H', J.os, J.bare, J.base, J.hok, rfl, q⟩
  | brk =>
    obtain ⟨_, _, _, q⟩ := hs
    exact q.elim
  | cont =>
    obtain ⟨_, _, _, q⟩ := hs
    exact q.elim
  | ret u =>
    obtain ⟨v, σ', H', J, rv, q⟩ := hs
    exact ⟨v, H', J.os, J.bare, J.base, J.hok, rv, q⟩
theorem FnG.of_ok (F : FnOk P w K mg base L2.CX0 k f fd ps sp) : FnG P w K mg base k f fd ps sp :=
  ⟨F.len, fun A outer s H args us vs Q E hr _ => F.run A outer s H args us vs Q E hr⟩
end

section
variable {X : Cx} {k : Nat} {f C : Addr} {fd : FuncData} {ps ks : List Str} {sp : Sp} {x : Str} {p pos : Pos} {e : Expr} {es : List Expr} {t tk : TA} {kws : List Keyword}
/-- x(e, ..), x a def with such a promise -/
theorem pe_callG (F : FnG X.prog X.w X.K X.mg X.base k f fd ps sp) (hr : Room k X.A) (hgd : X.A.guards = some []) (hg : Gl X x) (hm : X.mg x = some (.ref f)) (hk : PySem.W.keepIn X.K (.ref f) = true) (hb : Binds X.K fd ps [])
    (ha : PA X (e :: es) t) (hdb : (x == ("__debug__" : Str)) = false := by decide) (he : starEach (e :: es) X.env = (false, eval e X.env) :: starEach es X.env := by rfl) (hpl : (backTo pos (starEach es X.env)).any (·.1) = false := by rfl) :
    PE X (.Call (.Name x p) (e :: es) [] pos) (tCall sp [] L2.E0 t) := by
  refine ⟨fun pins s σ H Q I h => wpAny_Call_Name_kw (ld_glob I hg hm ?_ hdb)⟩
  have ga := thn (ha.run pos pins s σ H _ I h) (Q' := fun us s1 => X.K.In s1.heap ∧ wpAny (model X.prog X.w) X.A (call (.ref f) us) (EP X pins σ Q) X.xe s1) (fun us s1 hh => by
    obtain ⟨vs, H1, I1, r, q⟩ := hh
    rw [List.append_nil] at q
    refine ⟨I1.kIn, ?_⟩
    have hl : (us ++ []).length = ps.length := by rw [List.append_nil, ← r.length]; exact F.len _ _ _ _ q
    have hbt := hb s1 us I1.kIn hl
    rw [List.append_nil] at hbt
    refine wpAny_call (codeAny_mono (F.run X.A X.stack s1 H1 ⟨us, []⟩ us vs Q L2.E0 hr hgd I1.env0 hbt r q) ?_)
    intro r' s' hq
    cases r' with
    | error z => exact False.elim hq
    | ok fl =>
      cases fl with
      | ret u => exact I1.after hq
      | next => exact False.elim hq
      | brk => exact False.elim hq
      | cont => exact False.elim hq)
  exact PySem.W.callWith_K (h₀ := X.base) I.ok.mod.kin hk ga he hpl
/-- x(k = v, ..): keywords alone -/
theorem pe_callN0 {g : List Value → List Value → List Value} {gV : List V → List V → List V} (F : FnOk X.prog X.w X.K X.mg X.base L2.CX0 k f fd ps sp) (hr : Room k X.A) (hg : Gl X x) (hm : X.mg x = some (.ref f)) (hk : PySem.W.keepIn X.K (.ref f) = true)
    (hb : KBn X.K fd ps 0 ks g gV) (hkw : PK X kws tk) (hall : (backToKw pos (keywordEach kws X.env)).all (·.1.isSome) = true := by rfl) (hks : (backToKw pos (keywordEach kws X.env)).filterMap (·.1) = ks := by rfl)
    (hdb : (x == ("__debug__" : Str)) = false := by decide) (hpl : ((backTo pos (starEach [] X.env)).any (·.1) || (backToKw pos (keywordEach kws X.env)).any (·.1.isNone)) = false := by rfl) :
    PE X (.Call (.Name x p) [] kws pos) (tCallN 0 ks.length sp gV L2.E0 tNil tk) := by
  refine ⟨fun pins s σ H Q I h => wpAny_Call_Name_kw (ld_glob I hg hm ?_ hdb)⟩
  have gk := thn (hkw.run pos pins s σ H _ I h) (Q' := fun ws s2 => X.K.In s2.heap ∧ wpAny (model X.prog X.w) X.A (call (.ref f) [] (ks.zip ws)) (EP X pins σ Q) X.xe s2) (fun ws s2 hh => by
    obtain ⟨zs, H2, I2, rz, l1, l2, q2⟩ := hh
    exact ⟨I2.kIn, run_fnN (us := []) (vs := []) F hr hb pass0 I2 .nil rz rfl l2 q2⟩)
  rw [← hks] at gk
  exact PySem.W.callWith_KW0 (h₀ := X.base) I.ok.mod.kin hk hall gk hpl
end

/-! ### repr of data -/
def rRepr (K : PySem.W.Frag) : List V → Hp → VK → Prop := fun xs H Q => ∃ (v : V) (p : PyData), xs = [v] ∧ Dp K H v p ∧ PyData.showable p = true ∧ PyData.hasDict p = false ∧ PyData.depth p ≤ 40 ∧ (PyData.shown p).length ≤ sizeLine ∧ Q (.str (PyData.shown p)) H
theorem call_repr {X : Cx} (hg : X.A.guards = some []) (hu : X.A.units + 64 < cLine) : CallR X (.builtin "repr") (rRepr X.K) := by
  intro pins s σ H xs us Q I r h
  obtain ⟨v, p, rfl, hd, hs, hn, hdp, hz, q⟩ := h
  obtain ⟨u, rfl, ru⟩ := vals1 r
  have fin : ∀ (h' : Heap) (tu : Tok) (tk : Nat), (∀ b o, s.heap.get? b = some o → h'.get? b = some o) → EP X pins σ Q (.str (PyData.shown p) tu) { s with heap := h', toks := tk } :=
    fun h' tu tk hk => ⟨.str (PyData.shown p), H, I.kept hk, ⟨_, rfl⟩, q⟩
  obtain ⟨as, rd⟩ := Dp.reads I p v u hd ru
  cases hd with
  | non =>
    cases ru
    rw [PyData.shown_none] at fin
    exact P.repr_of_none (fin _ _ _ fun _ _ e => e)
  | bl b =>
    cases ru
    rw [PyData.shown_bool] at fin
    exact P.repr_of_bool (fin _ _ _ fun _ _ e => e)
  | int i =>
    obtain ⟨t, rfl⟩ := ru
    rw [PyData.shown_int] at fin
    have hi : i.natAbs.log2 < 1920 := by simpa [PyData.showable] using hs
    exact P.repr_of_int hi (fin _ _ _ fun _ _ e => e)
  | str y =>
    obtain ⟨t, rfl⟩ := ru
    rw [PyData.shown_str] at fin hz
    exact P.repr_of_str (fin _ _ _ fun _ _ e => e) hz
  | lst _ _ =>
    cases ru
    exact repr_of_reads' (h₀ := s.heap) rd hs (fun z => by rw [hn] at z; cases z) hg (by omega) (fun _ _ e => e) (fun h' tu tk hk => fin h' tu tk hk) hz
  | tup _ _ =>
    cases ru
    exact repr_of_reads' (h₀ := s.heap) rd hs (fun z => by rw [hn] at z; cases z) hg (by omega) (fun _ _ e => e) (fun h' tu tk hk => fin h' tu tk hk) hz
end U

/-! U3: the law's end over FnG; a list of three ints that draws change, told once for all (potO). -/
namespace U
open PySem PySem.Spec PyProof.Rows L2

/-! ### the law's end -/
def spLaw (K : PySem.W.Frag) : Sp := fun vs H Q _ => ∃ (a : Addr) (ns : List Int), vs = [.ref a] ∧ SqL K H a (ns.map V.int) ∧ ns.length ≤ 63 ∧ ∀ H', Q (.bl true) H'
def scrO (vs : List Value) : Obj := { cls := .type "list", data := .seq vs.toArray }
/-- the script alone is tracked, where it is none of the written part -/
noncomputable def scrH (K : PySem.W.Frag) (a : Addr) (vs : List Value) (ns : List Int) : Hp := fun b => if b = a ∧ K.lookup a = none then some (.frz (scrO vs) (.lst (ns.map V.int))) else none
theorem scrH_some {K : PySem.W.Frag} {a b : Addr} {vs : List Value} {ns : List Int} {u : HO} (h : scrH K a vs ns b = some u) : b = a ∧ K.lookup a = none ∧ u = .frz (scrO vs) (.lst (ns.map V.int)) := by
  unfold scrH at h
  split at h
  · rename_i c
    exact ⟨c.1, c.2, (Option.some.inj h).symm⟩
  · cases h
theorem lawG {P : Program} {w : World} {K : PySem.W.Frag} {mg mb : Str → Option Value} {k : Nat} {fa a : Addr} {fd : FuncData} {x : Str} {s : Shared} {vs : List Value} {ns : List Int}
    (KX : K.In s.heap) (hns : s.heap.Ns mainGlobals mg) (hb : s.heap.Ns builtinsNs mb) (hbb : ∀ y : Str, y ≠ "__name__" → mb y = bootBuiltins y) (hlim : s.heap.NoLimit) (hgen : s.gens = #[])
    (ha : s.heap.get? a = some (scrO vs)) (hi : IntsAre vs ns) (hl : ns.length ≤ 63) (hr : Room k callerA)
    (F : ∀ base : Heap, K.In base → base.Ns mainGlobals mg → FnG P w K mg base k fa fd [x] (spLaw K)) (hbind : ∀ (t : Shared) (u : Value), BindsTo t fd ⟨[u], []⟩ [(x, u)]) :
    codeAny (model P w) callerA (.call (.ref fa) ⟨[.ref a], []⟩) (fun r s' => r = .ok (.ret (.bool true)) ∧ OldK s.heap s'.heap ∧ s'.os = s.os ∧ AllBare s'.gens) s := by
  have rv := vals_ints hi
  have lenV := hi.length
  have hsz : ns.length ≤ sizeLine := Nat.le_trans hl (by decide)
  have hok : HOk P w (scrH K a vs ns) s.heap := by
    intro b u e
    obtain ⟨rfl, _, rfl⟩ := scrH_some e
    exact ⟨ha, by rw [List.length_map]; exact hsz, vs, _, rv, ha⟩
  have untr : ∀ {b : Addr} {o : Obj} {es : Array DictEntry} {ep : Nat}, s.heap.get? b = some o → o.data = .dict es ep → scrH K a vs ns b = none := by
    intro b o es ep e d
    cases q : scrH K a vs ns b with
    | none => rfl
    | some u =>
      obtain ⟨rfl, _, _⟩ := scrH_some q
      rw [ha] at e
      cases e
      cases d
  have nsB : ∀ {b : Addr} {m : Str → Option Value}, s.heap.Ns b m → (hidT s.heap (scrH K a vs ns)).Ns b m := by
    rintro b m ⟨o, es, ep, e, d, r⟩
    exact ⟨o, es, ep, hidT_get e (untr e d), d, r⟩
  have KB : K.In (hidT s.heap (scrH K a vs ns)) := by
    intro b o e
    refine hidT_get (KX b o e) ?_
    cases q : scrH K a vs ns b with
    | none => rfl
    | some u =>
      obtain ⟨rfl, z, _⟩ := scrH_some q
      rw [z] at e
      cases e
  have hS : SqL K (scrH K a vs ns) a (ns.map V.int) := by
    cases hk : K.lookup a with
    | none => exact .inl (.inr ⟨scrO vs, if_pos ⟨rfl, hk⟩⟩)
    | some o =>
      have e := KX a o hk
      rw [ha] at e
      cases e
      refine .inr ⟨scrO vs, vs.toArray, _, hk, rfl, rfl, rfl, ?_, ?_⟩
      · rw [List.size_toArray, lenV]
        exact hsz
      · simpa using rv
  have hM : Mod K mg (hidT s.heap (scrH K a vs ns)) := by
    obtain ⟨mc, h1, h2⟩ := hlim
    exact ⟨KB, nsB hns, ⟨mb, nsB hb, hbb⟩, mc, nsB h1, h2⟩
  have e0 : Env0 P w K mg (hidT s.heap (scrH K a vs ns)) callerA [] s (scrH K a vs ns) :=
    ⟨rfl, hM, fun b o e => of_hidT e, Nat.le_of_eq (hidT_size _ _), trivial, (fun b hb => by cases hb), hok, .of_eq hgen⟩
  have go := (F _ KB (nsB hns)).run callerA [] s _ ⟨[.ref a], []⟩ [.ref a] [.ref a] (fun v _ => v = .bl true) (fun _ _ _ => False) hr rfl e0 (hbind s (.ref a)) (.cons rfl .nil) ⟨a, ns, rfl, hS, hl, fun _ => rfl⟩
  refine codeAny_mono go ?_
  intro r s' h
  cases r with
  | error e => exact False.elim h
  | ok fl =>
    cases fl with
    | next => exact False.elim h
    | brk => exact False.elim h
    | cont => exact False.elim h
    | ret u =>
      obtain ⟨v, H', os, bare, un, hok', r', rfl⟩ := h
      cases (show u = Value.bool true from r')
      refine ⟨rfl, OldK.of_keep ?_, os, bare⟩
      intro b o e
      cases q : scrH K a vs ns b with
      | none => exact un.keep b o e q (fun z => by cases z) (fun z => by cases z)
      | some u =>
        obtain ⟨rfl, _, rfl⟩ := scrH_some q
        have z2 := un.frzs _ _ _ q
        obtain ⟨e2, _⟩ := hok' _ _ z2
        rw [ha] at e
        cases e
        exact e2
theorem walkG {l : PySem.W.OpenLaw} {k : Nat} {q : Program} {loose : List Str} {XP : (Str → Option Value) → Heap → Prop} {YP : World → Heap → Prop} {d : DefRec} {K : Params → PySem.W.Frag} {x : Str}
    (hn : l.most = some 63) (hdf : d.params.defaults = []) (hr : Room k callerA) (hY : ∀ (w : World) (h : Heap), YP w h → (K w.params).In h)
    (F : ∀ (w : World) (mg : Str → Option Value) (fa : Addr) (h : Heap), (K w.params).In h → h.Ns mainGlobals mg → mg d.name = some (.ref fa) →
      ∃ fd : FuncData, (∀ (t : Shared) (u : Value), BindsTo t fd ⟨[u], []⟩ [(x, u)]) ∧ ∀ base : Heap, (K w.params).In base → base.Ns mainGlobals mg → FnG l.prog w (K w.params) mg base k fa fd [x] (spLaw (K w.params))) :
    PySem.W.WalkO q loose XP YP l.row.toRowW d [] (fun f vs => PySem.call f vs) := by
  refine Att.attach_call hn hdf ?_
  intro w s₀ s₁ mg mb fa o pm cd doc a vs ns G Y ho hd hcd hmg hobj hints hlen hg
  obtain ⟨fd, hb, hF⟩ := F w mg fa _ (hY w _ Y) G.T.g hmg
  exact lawG (hY w _ Y) G.T.g G.T.b G.T.builtins G.T.nolimit hg hobj hints hlen hr hF hb

/-! ### another view of one object -/
section
variable {P : Program} {w : World} {H H1 H2 : Hp} {h h' : Heap} {p : Addr} {o : HO} {φ : Heap → Prop} {fs ex : List Addr}
theorem hok_in (ok : HOk P w H h) (hp : H p = some (.ext φ)) (new : ObjOk P w (upd H p o) h p o) : HOk P w (upd H p o) h := by
  intro b u e
  by_cases hb : b = p
  · subst hb
    rw [upd_same] at e
    cases e
    exact new
  · rw [upd_ne hb] at e
    refine (ok b u e).stay (fun c v _ q => q) (fun c q => ?_) (fun c xs q => ?_)
    · rw [upd_ne (fun z => by rw [z, hp] at q; cases q)]
      exact q
    · rw [upd_ne (fun z => by rw [z, hp] at q; cases q)]
      exact q
theorem hok_out {xs : List V} (ok : HOk P w H h) (hp : H p = some (.lst xs)) (hφ : φ h) (st : ∀ h1 h2 : Heap, φ h1 → (∀ u, h1.get? p = some u → h2.get? p = some u) → φ h2) : HOk P w (upd H p (.ext φ)) h := by
  intro b u e
  by_cases hb : b = p
  · subst hb
    rw [upd_same] at e
    cases e
    obtain ⟨_, its, n, _, z⟩ := ok _ _ hp
    exact ⟨hφ, ⟨_, z⟩, st⟩
  · rw [upd_ne hb] at e
    refine (ok b u e).stay (fun c v _ q => q) (fun c q => ?_) (fun c xs q => ?_)
    · rw [upd_ne (fun z => by rw [z, hp] at q; cases q)]
      exact q
    · rw [upd_ne (fun z => by rw [z, hp] at q; cases q)]
      exact q
theorem un_in (u : Un fs ex (upd H p o) H1 h h') (hp : H p = some (.ext φ)) : Un fs ex H H1 h h' := by
  have nn : ∀ b, H b = none → upd H p o b = none := fun b n => by
    rw [upd_ne (fun z => by rw [z, hp] at n; cases n)]
    exact n
  have ne : ∀ b v, H b = some v → (∀ ψ, v ≠ .ext ψ) → upd H p o b = some v := fun b v e n => by
    rw [upd_ne (fun z => by rw [z, hp] at e; cases e; exact n _ rfl)]
    exact e
  exact ⟨fun b v e n => u.keep b v e (nn b n), fun b v e n => u.slot b v e (nn b n), fun b v e n => u.free b v e (nn b n), u.there,
    fun b xs e => u.tups b xs (ne b _ e (fun _ z => nomatch z)), fun b v t e => u.frzs b v t (ne b _ e (fun _ z => nomatch z)), fun b ps e => u.tbls b ps (ne b _ e (fun _ z => nomatch z))⟩
theorem un_out {xs : List V} (u : Un fs ex H H1 h h') (hp : H1 p = some (.lst xs)) : Un fs ex H (upd H1 p (.ext φ)) h h' := by
  have ne : ∀ b v, H1 b = some v → (∀ ys, v ≠ .lst ys) → upd H1 p (.ext φ) b = some v := fun b v e n => by
    rw [upd_ne (fun z => by rw [z, hp] at e; cases e; exact n _ rfl)]
    exact e
  refine ⟨u.keep, u.slot, fun b v e n hx => ?_, u.there, fun b xs e => ne b _ (u.tups b xs e) (fun _ z => nomatch z), fun b v t e => ne b _ (u.frzs b v t e) (fun _ z => nomatch z), fun b ps e => ?_⟩
  · have z := u.free b v e n hx
    rw [upd_ne (fun q => by rw [q, hp] at z; cases z)]
    exact z
  · obtain ⟨m, e1⟩ := u.tbls b ps e
    exact ⟨m, ne b _ e1 fun _ z => nomatch z⟩
end

/-! ### the pot: a list of three ints -/
def potP (p : Addr) : Heap → Prop := fun h => ∃ (a b c : Int) (its : List Value) (n : Nat), Vals [.int a, .int b, .int c] its ∧ h.get? p = some { cls := .type "list", data := .seq its.toArray n }
def potO (p : Addr) : HO := .ext (potP p)
def Pot (H : Hp) (p : Addr) : Prop := H p = some (potO p)
def potL (a b c : Int) : HO := .lst [.int a, .int b, .int c]
theorem pot_st {p : Addr} : ∀ h1 h2 : Heap, potP p h1 → (∀ u, h1.get? p = some u → h2.get? p = some u) → potP p h2 := fun h1 h2 ⟨a, b, c, its, n, v, e⟩ k => ⟨a, b, c, its, n, v, k _ e⟩
theorem Pot.sm {H H' : Hp} {p : Addr} (h : Pot H p) (e : Same H H') : Pot H' p := e _ _ h
theorem Pot.go {S : Addr → Prop} {H H' : Hp} {p : Addr} (h : Pot H p) (e : Ext S H H') (n : ¬ S p) : Pot H' p := e _ _ n h
section
variable {P : Program} {w : World} {K : PySem.W.Frag} {mg : Str → Option Value} {base : Heap} {k : Nat} {f : Addr} {fd : FuncData} {ps : List Str} {sp sp' : Sp}
/-- a def that changes the pot: from its promise over the list itself -/
theorem fn_pot (F : FnOk P w K mg base L2.CX0 k f fd ps sp) (len : ∀ vs H Q E, sp' vs H Q E → vs.length = ps.length)
    (go : ∀ vs H Q E, sp' vs H Q E → ∃ p, Pot H p ∧ ∀ a b c, sp vs (upd H p (potL a b c)) (fun v H' => (∃ x y z, H' p = some (potL x y z)) ∧ Q v (upd H' p (potO p))) E) :
    FnOk P w K mg base L2.CX0 k f fd ps sp' := by
  refine ⟨len, fun A outer s H args us vs Q E hr e0 hb r hsp => ?_⟩
  obtain ⟨p, hp, g⟩ := go _ _ _ _ hsp
  obtain ⟨⟨a, b, c, its, n, rv, hget⟩, _, _⟩ := e0.hok p _ hp
  have np : ∀ b, H b = none → upd H p (potL a b c) b = none := fun b z => by
    rw [upd_ne (fun q => by rw [q, hp] at z; cases z)]
    exact z
  have np' : ∀ q, H q = none → upd H p (potL a b c) q = none := fun q z => by
    rw [upd_ne (fun t => by rw [t, hp] at z; cases z)]
    exact z
  have e1 : Env0 P w K mg base A outer s (upd H p (potL a b c)) :=
    ⟨e0.frames, e0.mod, fun q o e => ⟨(e0.bs q o e).1, np' q (e0.bs q o e).2⟩, e0.bsz, e0.funs, fun q hq => np' q (e0.frf q hq), hok_in e0.hok hp ⟨by show 3 ≤ sizeLine; decide, its, n, rv, hget⟩, e0.bare⟩
  refine codeAny_mono (F.run A outer s _ args us vs _ E hr e1 hb r (g a b c)) ?_
  intro r' s' hq
  cases r' with
  | error z => exact hq
  | ok fl =>
    cases fl with
    | next => exact hq
    | brk => exact hq
    | cont => exact hq
    | ret u =>
      obtain ⟨v, H', os, bare, un, hok', rel, ⟨x, y, z, hx⟩, q⟩ := hq
      have un2 := un_out (φ := potP p) (un_in un hp) hx
      obtain ⟨_, its', n', rv', e'⟩ := hok' p _ hx
      exact ⟨v, _, os, bare, un2, hok_out hok' hx ⟨x, y, z, its', n', rv', e'⟩ pot_st, rel, q⟩
/-- a def that makes a pot -/
theorem fn_potOut (F : FnOk P w K mg base L2.CX0 k f fd ps sp) (len : ∀ vs H Q E, sp' vs H Q E → vs.length = ps.length)
    (go : ∀ vs H Q E, sp' vs H Q E → sp vs H (fun v H' => ∃ p x y z, H' p = some (potL x y z) ∧ Q v (upd H' p (potO p))) E) :
    FnOk P w K mg base L2.CX0 k f fd ps sp' := by
  refine ⟨len, fun A outer s H args us vs Q E hr e0 hb r hsp => ?_⟩
  refine codeAny_mono (F.run A outer s _ args us vs _ E hr e0 hb r (go _ _ _ _ hsp)) ?_
  intro r' s' hq
  cases r' with
  | error z => exact hq
  | ok fl =>
    cases fl with
    | next => exact hq
    | brk => exact hq
    | cont => exact hq
    | ret u =>
      obtain ⟨v, H', os, bare, un, hok', rel, p, x, y, z, hx, q⟩ := hq
      obtain ⟨_, its', n', rv', e'⟩ := hok' p _ hx
      exact ⟨v, _, os, bare, un_out (φ := potP p) un hx, hok_out hok' hx ⟨x, y, z, its', n', rv', e'⟩ pot_st, rel, q⟩
end
/-- a draw: a number below n -/
def spDraw : Sp := fun vs H Q _ => ∃ (p : Addr) (n : Int), vs = [.ref p, .int n] ∧ Pot H p ∧ (0 < n ∧ n < 1073741824) ∧ ∀ (r : Int) (H' : Hp), Same H H' → 0 ≤ r → r < n → Q (.int r) H'
/-- .. over the list itself -/
def spDraw1 : Sp := fun vs H Q _ => ∃ (p : Addr) (n a b c : Int), vs = [.ref p, .int n] ∧ H p = some (potL a b c) ∧ (0 < n ∧ n < 1073741824) ∧
  ∀ (r x y z : Int) (H' : Hp), Ext (fun q => q = p) H H' → H' p = some (potL x y z) → 0 ≤ r → r < n → Q (.int r) H'
theorem fn_draw {P : Program} {w : World} {K : PySem.W.Frag} {mg : Str → Option Value} {base : Heap} {k : Nat} {f : Addr} {fd : FuncData} {ps : List Str} (F : FnOk P w K mg base L2.CX0 k f fd ps spDraw1) (h2 : ps.length = 2) : FnOk P w K mg base L2.CX0 k f fd ps spDraw := by
  refine fn_pot F (fun vs H Q E h => ?_) (fun vs H Q E h => ?_)
  · obtain ⟨p, n, rfl, _⟩ := h
    rw [h2]
    rfl
  · obtain ⟨p, n, rfl, hp, hn, q⟩ := h
    refine ⟨p, hp, fun a b c => ⟨p, n, a, b, c, rfl, upd_same, hn, fun r x y z H' e hx h0 h1 => ⟨⟨x, y, z, hx⟩, q r _ (fun c o hc => ?_) h0 h1⟩⟩⟩
    by_cases hb : c = p
    · subst hb
      rw [show H c = some (potO c) from hp] at hc
      cases hc
      exact upd_same
    · rw [upd_ne hb]
      exact e c o hb (by rw [upd_ne hb]; exact hc)
/-- a new pot -/
def spPot (K : PySem.W.Frag) : Sp := fun vs H Q _ => ∃ (a : Addr) (ns : List Int) (i : Nat), vs = [.ref a, .int i] ∧ SqL K H a (ns.map V.int) ∧ ns.length ≤ 63 ∧ i ≤ 63 ∧ ∀ (p : Addr) (H' : Hp), Same H H' → Pot H' p → Q (.ref p) H'
def spPot1 (K : PySem.W.Frag) : Sp := fun vs H Q _ => ∃ (a : Addr) (ns : List Int) (i : Nat), vs = [.ref a, .int i] ∧ SqL K H a (ns.map V.int) ∧ ns.length ≤ 63 ∧ i ≤ 63 ∧
  ∀ (p : Addr) (x y z : Int) (H' : Hp), Same H H' → H p = none → H' p = some (potL x y z) → Q (.ref p) H'
theorem fn_newPot {P : Program} {w : World} {K : PySem.W.Frag} {mg : Str → Option Value} {base : Heap} {k : Nat} {f : Addr} {fd : FuncData} {ps : List Str} (F : FnOk P w K mg base L2.CX0 k f fd ps (spPot1 K)) (h2 : ps.length = 2) : FnOk P w K mg base L2.CX0 k f fd ps (spPot K) := by
  refine fn_potOut F (fun vs H Q E h => ?_) (fun vs H Q E h => ?_)
  · obtain ⟨a, ns, i, rfl, _⟩ := h
    rw [h2]
    rfl
  · obtain ⟨a, ns, i, rfl, hS, hn, hi, q⟩ := h
    refine ⟨a, ns, i, rfl, hS, hn, hi, fun p x y z H' e hp hx => ⟨p, x, y, z, hx, q p _ (fun c o hc => ?_) upd_same⟩⟩
    rw [upd_ne (ne_of_none hc hp)]
    exact e c o hc
end U

/-! U4: operators by what their operands are; readings over data. -/
namespace U
open PySem PySem.Spec PyProof.Rows L2

section
variable {X : Cx}
/-! ### operators -/
def rAddU : R2 := fun x y H Q => match x, y with
  | .int i, .int j => Q (.int (i + j)) H
  | .str a, .str b => a.length + b.length ≤ sizeLine ∧ Q (.str (a ++ b)) H
  | .ref p, .ref q => ∃ xs ys, H p = some (.lst xs) ∧ H q = some (.lst ys) ∧ xs.length + ys.length ≤ sizeLine ∧ ∀ r, H r = none → Q (.ref r) (upd H r (.lst (xs ++ ys)))
  | _, _ => False
theorem op_addU : OpR X (binaryOp .Add) rAddU := by
  intro pins s σ H x y v u Q I rx ry h
  cases x with
  | int i =>
    cases y with
    | int j => exact op_add pins s σ H _ _ v u Q I rx ry ⟨i, j, rfl, rfl, h⟩
    | _ => exact h.elim
  | str a =>
    cases y with
    | str b => exact op_add_str pins s σ H _ _ v u Q I rx ry ⟨a, b, rfl, rfl, h.1, h.2⟩
    | _ => exact h.elim
  | ref p =>
    cases y with
    | ref q =>
      obtain ⟨xs, ys, h1, h2, h3, h4⟩ := h
      exact op_cat pins s σ H _ _ v u Q I rx ry ⟨p, q, xs, ys, rfl, rfl, h1, h2, h3, h4⟩
    | _ => exact h.elim
  | _ => exact h.elim
/-- == of anything: data by their contents -/
def rEqU (K : PySem.W.Frag) : R2 := fun x y H Q => match x, y with
  | .ref p, .ref q => ∃ d e, Dp K H (.ref p) d ∧ Dp K H (.ref q) e ∧ SeqAt.shaped d = true ∧ SeqAt.shaped e = true ∧ Q (.bl (PyData.eqv d e)) H
  | x, y => scal x y = true ∧ Q (.bl (decide (x = y))) H
def rNeU (K : PySem.W.Frag) : R2 := fun x y H Q => match x, y with
  | .ref p, .ref q => ∃ d e, Dp K H (.ref p) d ∧ Dp K H (.ref q) e ∧ SeqAt.shaped d = true ∧ SeqAt.shaped e = true ∧ Q (.bl (!PyData.eqv d e)) H
  | x, y => scal x y = true ∧ Q (.bl (!decide (x = y))) H
theorem op_eqU (hu : X.A.units + 64 < cLine) : OpR X (compareOp .Eq) (rEqU X.K) := by
  intro pins s σ H x y v u Q I rx ry h
  by_cases c : ∃ p q, x = .ref p ∧ y = .ref q
  · obtain ⟨p, q, rfl, rfl⟩ := c
    exact op_eqD hu pins s σ H _ _ v u Q I rx ry h
  · have h' : scal x y = true ∧ Q (.bl (decide (x = y))) H := by
      cases x <;> first | exact h | (cases y <;> first | exact h | exact (c ⟨_, _, rfl, rfl⟩).elim)
    exact op_eq pins s σ H _ _ v u Q I rx ry h'
theorem op_neU (hu : X.A.units + 64 < cLine) : OpR X (compareOp .NotEq) (rNeU X.K) := by
  intro pins s σ H x y v u Q I rx ry h
  by_cases c : ∃ p q, x = .ref p ∧ y = .ref q
  · obtain ⟨p, q, rfl, rfl⟩ := c
    exact op_neD hu pins s σ H _ _ v u Q I rx ry h
  · have h' : scal x y = true ∧ Q (.bl (!decide (x = y))) H := by
      cases x <;> first | exact h | (cases y <;> first | exact h | exact (c ⟨_, _, rfl, rfl⟩).elim)
    exact op_ne pins s σ H _ _ v u Q I rx ry h'
def rLtU : R2 := fun x y H Q => match x, y with
  | .int i, .int j => Q (.bl (decide (i < j))) H
  | .str i, .str j => Q (.bl (decide (i.cps.toList < j.cps.toList))) H
  | _, _ => False
theorem op_ltU : OpR X (compareOp .Lt) rLtU := by
  intro pins s σ H x y v u Q I rx ry h
  cases x with
  | int i =>
    cases y with
    | int j => exact op_lt pins s σ H _ _ v u Q I rx ry ⟨i, j, rfl, rfl, h⟩
    | _ => exact h.elim
  | str a =>
    cases y with
    | str b => exact op_lt_str pins s σ H _ _ v u Q I rx ry ⟨a, b, rfl, rfl, h⟩
    | _ => exact h.elim
  | _ => exact h.elim
/-- in, not in: a sign in a text, a flat thing in a list or tuple of flat things -/
def rInU (K : PySem.W.Frag) : R2 := fun x y H Q => match y with
  | .str z => ∃ c, x = .str ⟨#[c]⟩ ∧ Q (.bl (decide (c ∈ z.cps.toList))) H
  | .ref p => ∃ xs, (SqL K H p xs ∨ SqT K H p xs) ∧ flatV x = true ∧ xs.all flatV = true ∧ Q (.bl (inV x xs)) H
  | _ => False
def rNinU (K : PySem.W.Frag) : R2 := fun x y H Q => match y with
  | .str z => ∃ c, x = .str ⟨#[c]⟩ ∧ Q (.bl (!decide (c ∈ z.cps.toList))) H
  | .ref p => ∃ xs, (SqL K H p xs ∨ SqT K H p xs) ∧ flatV x = true ∧ xs.all flatV = true ∧ Q (.bl (!inV x xs)) H
  | _ => False
theorem op_inU : OpR X (compareOp .In) (rInU X.K) := by
  intro pins s σ H x y v u Q I rx ry h
  cases y with
  | str z =>
    obtain ⟨c, rfl, q⟩ := h
    exact op_in_sign pins s σ H _ _ v u Q I rx ry ⟨c, z, rfl, rfl, q⟩
  | ref p =>
    obtain ⟨xs, h1, h2, h3, q⟩ := h
    exact op_in_seq pins s σ H _ _ v u Q I rx ry ⟨p, xs, rfl, h1, h2, h3, q⟩
  | _ => exact h.elim
theorem op_ninU : OpR X (compareOp .NotIn) (rNinU X.K) := by
  intro pins s σ H x y v u Q I rx ry h
  cases y with
  | str z =>
    obtain ⟨c, rfl, q⟩ := h
    exact op_notIn_sign pins s σ H _ _ v u Q I rx ry ⟨c, z, rfl, rfl, q⟩
  | ref p =>
    obtain ⟨xs, h1, h2, h3, q⟩ := h
    exact op_notIn_seq pins s σ H _ _ v u Q I rx ry ⟨p, xs, rfl, h1, h2, h3, q⟩
  | _ => exact h.elim
/-- x[i] of a list, a tuple, a text -/
def rIxU (K : PySem.W.Frag) : R2 := fun x y H Q => match x, y with
  | .ref p, .int i => ∃ xs v, (SqL K H p xs ∨ SqT K H p xs) ∧ atI xs i = some v ∧ Q v H
  | .str z, .int i => ∃ c, z.length ≤ sizeLine ∧ atI z.cps.toList i = some c ∧ Q (.str ⟨#[c]⟩) H
  | _, _ => False
theorem ix_U : IxR X (rIxU X.K) := by
  intro value slice pins s σ H x y v u Q I rx ry h hs
  refine ix_seq value slice pins s σ H x y v u Q I rx ry ?_ hs
  cases x with
  | ref p =>
    cases y with
    | int i =>
      obtain ⟨xs, w, h1, h2, q⟩ := h
      rcases h1 with h1 | h1
      · exact .inl ⟨p, xs, i, w, rfl, rfl, h1, h2, q⟩
      · exact .inr (.inl ⟨p, xs, i, w, rfl, rfl, h1, h2, q⟩)
    | _ => exact h.elim
  | str z =>
    cases y with
    | int i =>
      obtain ⟨c, h1, h2, q⟩ := h
      exact .inr (.inr ⟨z, i, c, rfl, rfl, h1, h2, q⟩)
    | _ => exact h.elim
  | _ => exact h.elim
/-- x[i:j] of a list, a text, a tuple that is not taken whole -/
def Sli (K : PySem.W.Frag) (H : Hp) (a : Addr) (lo hi : Option Int) (o : HO) : Prop := (∃ xs, SqL K H a xs ∧ o = .lst (cutV xs lo hi)) ∨
  (∃ xs, SqT K H a xs ∧ ¬ (HT.sIx xs.length 0 lo = 0 ∧ HT.sIx xs.length xs.length hi = xs.length) ∧ o = .tup (cutV xs lo hi))
def rSlU (K : PySem.W.Frag) : V → Option Int → Option Int → Hp → VK → Prop := fun x lo hi H Q => match x with
  | .ref a => ∃ o, Sli K H a lo hi o ∧ ∀ p, H p = none → Q (.ref p) (upd H p o)
  | .str z => z.length ≤ sizeLine ∧ Q (.str (cutS z lo hi)) H
  | _ => False
theorem sl_U : SlR X (rSlU X.K) := by
  intro pins s σ H x v vl vu lo hi sl Q I rx hs pl pu h
  cases x with
  | ref a =>
    obtain ⟨o, h, q⟩ := h
    rcases h with ⟨xs, h1, rfl⟩ | ⟨xs, h1, h2, rfl⟩
    · exact sl_list pins s σ H _ v vl vu lo hi sl Q I rx hs pl pu ⟨a, xs, rfl, h1, q⟩
    · exact sl_tup pins s σ H _ v vl vu lo hi sl Q I rx hs pl pu ⟨a, xs, rfl, h1, h2, q⟩
  | str z => exact sl_str pins s σ H _ v vl vu lo hi sl Q I rx hs pl pu ⟨z, rfl, h.1, h.2⟩
  | _ => exact h.elim
theorem sli_l {K : PySem.W.Frag} {H : Hp} {a : Addr} {lo hi : Option Int} {xs : List V} (h : SqL K H a xs) : Sli K H a lo hi (.lst (cutV xs lo hi)) := .inl ⟨xs, h, rfl⟩
def rLenU (K : PySem.W.Frag) : List V → Hp → VK → Prop := fun xs H Q => match xs with
  | [.str z] => z.length ≤ sizeLine ∧ Q (.int z.length) H
  | [.ref p] => ∃ ys, (SqL K H p ys ∨ SqT K H p ys) ∧ Q (.int ys.length) H
  | _ => False
theorem call_lenU : CallR X (.builtin "len") (rLenU X.K) := by
  intro pins s σ H xs us Q I r h
  match xs, h with
  | [.str z], h => exact call_len_str pins s σ H _ us Q I r ⟨z, rfl, h.1, h.2⟩
  | [.ref p], h =>
    obtain ⟨ys, h1, q⟩ := h
    exact call_len_seq pins s σ H _ us Q I r ⟨p, ys, rfl, h1, q⟩
/-- int(n) of an int -/
def rInt1 : List V → Hp → VK → Prop := fun xs H Q => match xs with
  | [.int i] => Q (.int i) H
  | _ => False
theorem call_intU : CallR X (.type "int") rInt1 := by
  intro pins s σ H xs us Q I r h
  match xs, h with
  | [.int i], h => exact call_int1 pins s σ H _ us Q I r (.inl ⟨i, rfl, h⟩)
def rI1 (f : Int → V) : List V → Hp → VK → Prop := fun xs H Q => match xs with
  | [.int i] => Q (f i) H
  | _ => False
def rI2 (f : Int → Int → V) : List V → Hp → VK → Prop := fun xs H Q => match xs with
  | [.int i, .int j] => Q (f i j) H
  | _ => False
theorem call_absU : CallR X (.builtin "abs") (rI1 fun i => .int (if i < 0 then -i else i)) := by
  intro pins s σ H xs us Q I r h
  match xs, h with
  | [.int i], h => exact call_abs pins s σ H _ us Q I r ⟨i, rfl, h⟩
theorem call_maxU (hc : X.calm = true) : CallR X (.builtin "max") (rI2 fun i j => .int (if j > i then j else i)) := by
  intro pins s σ H xs us Q I r h
  match xs, h with
  | [.int i, .int j], h => exact call_max2 hc pins s σ H _ us Q I r ⟨i, j, rfl, h⟩
theorem call_minU (hc : X.calm = true) : CallR X (.builtin "min") (rI2 fun i j => .int (if j < i then j else i)) := by
  intro pins s σ H xs us Q I r h
  match xs, h with
  | [.int i, .int j], h => exact call_min2 hc pins s σ H _ us Q I r ⟨i, j, rfl, h⟩
end

/-! ### what the readings come to: equations for simp -/
section
variable {σ : L2.St} {H : Hp} {Q : VK} {K : PySem.W.Frag} {D' : Ends}
theorem e_var {i : Nat} : tVar i σ H Q = ∃ v, σ[i]? = some (some v) ∧ Q v H := rfl
theorem e_c {v : V} : tC v σ H Q = Q v H := rfl
theorem e_op {r : R2} {ta tb : TE} : tOp r ta tb σ H Q = ta σ H fun x H1 => tb σ H1 fun y H2 => r x y H2 Q := rfl
theorem e_un {r : V → Hp → VK → Prop} {ta : TE} : tUn r ta σ H Q = ta σ H fun x H1 => r x H1 Q := rfl
theorem e_nil {R : List V → Hp → Prop} : tNil σ H R = R [] H := rfl
theorem e_cons {ta : TE} {tr : TA} {R : List V → Hp → Prop} : tCons ta tr σ H R = ta σ H fun x H1 => tr σ H1 fun xs H2 => R (x :: xs) H2 := rfl
theorem e_cb {r : List V → Hp → VK → Prop} {t : TA} : tCB r t σ H Q = t σ H fun vs H1 => r vs H1 Q := rfl
theorem e_call {sp : Sp} {dvs : List V} {E : XK} {t : TA} : tCall sp dvs E t σ H Q = t σ H fun vs H1 => sp (vs ++ dvs) H1 Q E := rfl
theorem e_tup {t : TA} : tTup t σ H Q = t σ H fun xs H1 => xs.length ≤ sizeLine ∧ ∀ p, H1 p = none → Q (.ref p) (upd H1 p (.tup xs)) := rfl
theorem e_lst {t : TA} : tLst t σ H Q = t σ H fun xs H1 => xs.length ≤ sizeLine ∧ ∀ p, H1 p = none → Q (.ref p) (upd H1 p (.lst xs)) := rfl
theorem e_if {t : TT} {ta tb : TE} : tIf t ta tb σ H Q = t σ H fun c H1 => if c = true then ta σ H1 Q else tb σ H1 Q := rfl
theorem e_andV {ta tb : TE} : tAndV ta tb σ H Q = ta σ H fun x H1 => ∃ c, x = .bl c ∧ if c = true then tb σ H1 Q else Q (.bl false) H1 := rfl
theorem e_orV {ta tb : TE} : tOrV ta tb σ H Q = ta σ H fun x H1 => ∃ c, x = .bl c ∧ if c = true then Q (.bl true) H1 else tb σ H1 Q := rfl
theorem e_notV {ta : TE} : tNotV ta σ H Q = ta σ H fun x H1 => ∃ c, x = .bl c ∧ Q (.bl (!c)) H1 := rfl
theorem e_chain {r r' : R2} {ta tb tc : TE} : tChain r r' ta tb tc σ H Q = ta σ H fun x H1 => tb σ H1 fun y H2 => r x y H2 fun z H3 => ∃ k, z = .bl k ∧ (if k = true then tc σ H3 fun w' H4 => r' y w' H4 Q else Q (.bl false) H3) := rfl
theorem e_test {te : TE} {R : Bool → Hp → Prop} : tTest te σ H R = te σ H fun x H1 => ∃ b, x = .bl b ∧ R b H1 := rfl
theorem e_B {te : TE} {R : Bool → Hp → Prop} : tB te σ H R = te σ H fun x H1 => ∃ b, x = .bl b ∧ R b H1 := rfl
theorem e_and {t u : TT} {R : Bool → Hp → Prop} : tAnd t u σ H R = t σ H fun c H1 => if c = true then u σ H1 R else R false H1 := rfl
theorem e_or {t u : TT} {R : Bool → Hp → Prop} : tOr t u σ H R = t σ H fun c H1 => if c = true then R true H1 else u σ H1 R := rfl
theorem e_not {t : TT} {R : Bool → Hp → Prop} : tNot t σ H R = t σ H fun c H1 => R (!c) H1 := rfl
theorem e_asg {te : TE} {g : TG} : tAsg te g D' σ H = te σ H fun v H1 => g v σ H1 D'.nx := rfl
theorem e_name {i : Nat} {v : V} {R : L2.St → Hp → Prop} : gName i v σ H R = R (σ.set i (some v)) H := rfl
theorem e_seq {t u : TS} : tSeq t u D' σ H = t { D' with nx := u D' } σ H := rfl
theorem e_next : tNext D' σ H = D'.nx σ H := rfl
theorem e_ret {te : TE} : tRet te D' σ H = te σ H D'.rt := rfl
theorem e_ifS {t : TT} {u w : TS} : tIfS t u w D' σ H = t σ H fun c H1 => if c = true then u D' σ H1 else w D' σ H1 := rfl
theorem e_drop {te : TE} : tDrop te D' σ H = te σ H fun _ H1 => D'.nx σ H1 := rfl
theorem e_part {te : TE} {R : Option Int → Hp → Prop} : tPart te σ H R = te σ H fun v H1 => ∃ i, v = .int i ∧ R (some i) H1 := rfl
theorem e_noPart {R : Option Int → Hp → Prop} : tNoPart σ H R = R none H := rfl
theorem e_sl {r : V → Option Int → Option Int → Hp → VK → Prop} {te : TE} {tl th : TO} : tSl r te tl th σ H Q = te σ H fun x H1 => tl σ H1 fun lo H2 => th σ H2 fun hi H3 => r x lo hi H3 Q := rfl
theorem e_I0 {f : Int → Int → V} {i j : Int} : rI0 f (.int i) (.int j) H Q = Q (f i j) H := by
  apply propext
  constructor
  · rintro ⟨a, b, h1, h2, q⟩
    cases h1
    cases h2
    exact q
  · exact fun q => ⟨i, j, rfl, rfl, q⟩
theorem e_I {C : Int → Int → Prop} {f : Int → Int → V} {i j : Int} : rI C f (.int i) (.int j) H Q = (C i j ∧ Q (f i j) H) := by
  apply propext
  constructor
  · rintro ⟨a, b, h1, h2, q⟩
    cases h1
    cases h2
    exact q
  · exact fun q => ⟨i, j, rfl, rfl, q⟩
theorem e_exbl {b : Bool} {R : Bool → Prop} : (∃ c, V.bl b = V.bl c ∧ R c) = R b := by
  apply propext
  constructor
  · rintro ⟨c, h, r⟩
    cases h
    exact r
  · exact fun r => ⟨b, rfl, r⟩
theorem e_exint {b : Int} {R : Int → Prop} : (∃ c, V.int b = V.int c ∧ R c) = R b := by
  apply propext
  constructor
  · rintro ⟨c, h, r⟩
    cases h
    exact r
  · exact fun r => ⟨b, rfl, r⟩
theorem e_exstr {b : Str} {R : Str → Prop} : (∃ c, V.str b = V.str c ∧ R c) = R b := by
  apply propext
  constructor
  · rintro ⟨c, h, r⟩
    cases h
    exact r
  · exact fun r => ⟨b, rfl, r⟩
theorem e_exsome {b : V} {R : V → Prop} : (∃ c, (some (some b) : Option (Option V)) = some (some c) ∧ R c) = R b := by
  apply propext
  constructor
  · rintro ⟨c, h, r⟩
    cases h
    exact r
  · exact fun r => ⟨b, rfl, r⟩
theorem e_pair {i j : Nat} {ta : TA} : tPar i j ta D' σ H = ta σ H fun vs H1 => ∃ v w, vs = [v, w] ∧ D'.nx ((σ.set i (some v)).set j (some w)) H1 := rfl
theorem e_expair {v w : V} {R : V → V → Prop} : (∃ a b, [v, w] = [a, b] ∧ R a b) = R v w := by
  apply propext
  constructor
  · rintro ⟨a, b, h, r⟩
    cases h
    exact r
  · exact fun r => ⟨v, w, rfl, r⟩
end
end U
namespace U
open PySem PySem.Spec PyProof.Rows L2
section
variable {σ : L2.St} {H : Hp} {Q : VK} {K : PySem.W.Frag}
theorem e_m1 {r : V → List V → Hp → VK → Prop} {to te : TE} : tM1 r to te σ H Q = to σ H fun x H1 => (∃ a, x = .str a) ∧ te σ H1 fun y H2 => r x [y] H2 Q := rfl
theorem e_m0 {r : V → List V → Hp → VK → Prop} {to : TE} : tM0 r to σ H Q = to σ H fun x H1 => (∃ a, x = .str a) ∧ r x [] H1 Q := rfl
theorem e_bm {T : String} {r : V → List V → Hp → VK → Prop} {to : TE} {t : TA} : tBM K T r to t σ H Q = to σ H fun x H1 => tyV K T x H1 ∧ t σ H1 fun xs H2 => r x xs H2 Q := rfl
theorem e_bm0 {T : String} {r : V → List V → Hp → VK → Prop} {to : TE} : tBM0 K T r to σ H Q = to σ H fun x H1 => tyV K T x H1 ∧ r x [] H1 Q := rfl
theorem e_fld {to : TE} {f : Str} : tFld K to f σ H Q = to σ H fun x H1 => ∃ a C dx fs v, x = .ref a ∧ H1 a = some (.ins C dx fs) ∧ Cls K C ∧ NoAttr K C f ∧ fs.lookup f = some v ∧ Q v H1 := rfl
end
end U
namespace U
open PySem PySem.Spec PyProof.Rows L2
section
variable {X : Cx} {x : Str} {pos : Pos} {a : Addr}
/-- a built-in class, a class or def of the module, as a value -/
theorem pe_bt (n : String) (hg : Gl X x) (hm : X.mg x = none) (hv : bootBuiltins x = some (.type n)) (hn : x ≠ "__name__" := by decide) (hd : (x == ("__debug__" : Str)) = false := by decide) : PE X (.Name x pos) (tC (.ty n)) :=
  pe_bltn hg hm hv rfl hn hd
theorem pe_gref (hg : Gl X x) (hm : X.mg x = some (.ref a)) (hd : (x == ("__debug__" : Str)) = false := by decide) : PE X (.Name x pos) (tC (.ref a)) := pe_glob (v := .ref a) hg hm rfl hd
end
end U

/-! U5: list(text); keywords alone in another order. -/
namespace U
open PySem PySem.Spec PyProof.Rows L2

section
variable {prog : Program} {w : World} {A : Around} {E : Value → Shared → Prop} {s : Shared}
theorem hint_str {x : Str} {t : Tok} {Q : Bool → Shared → Prop} (q : Q false s) : wpAny (model prog w) A (Builtin.List.listLengthHint (.str x t)) Q E s := by
  unfold Builtin.List.listLengthHint
  have ty : s.TypeIs (.str x t) "str" := rfl
  refine wpAny_bind (wpAny_specialOf ty PySem.F.str_len ?_)
  wp_delta
  refine wpAny_bind (wpAny_isInstance (v := .str x t) (T := "str") (b := true) rfl (by rw [isSubtype_type]; kernel_rfl) ?_)
  show wpAny _ A (typeOf (Value.str x t) >>= _) _ _ _
  refine wpAny_bind (wpAny_typeOf ty ?_)
  exact wpAny_pure q
/-- the signs of a text are put behind an empty list at S -/
theorem ext_str {R : Result → Shared → Prop} (hh : A.handled = none) (x : Str) (t : Tok) (S : Addr) (res : Value) (c0 : Nat) (hS : s.heap.get? S = some { cls := .type "list", data := .seq #[] c0 }) (hn : x.cps.size ≤ sizeLine)
    (hR : ∀ h' tk acc c', (∀ b o, b ≠ S → s.heap.get? b = some o → h'.get? b = some o) → h'.get? S = some { cls := .type "list", dict := none, data := .seq acc c', slots := #[] } → ItemsOf (SignAt x) acc x.cps.size → R (.ok (.ret res)) { s with heap := h', toks := tk }) :
    wpAny (model prog w) A.in1 (Builtin.List.listExtendWith (.ref S) (.str x t) res)
      (fun fin s1 => match fin with | .done f => R (.ok f) s1 | .again c1 => c1.quiet = true ∧ codeAny (model prog w) A c1 R s1) (fun e s1 => R (.error e) s1) s := by
  have hlt := Heap.lt_size hS
  unfold Builtin.List.listExtendWith
  have ty : s.TypeIs (.str x t) "str" := rfl
  refine wpAny_bind (wpAny_typeOf ty ?_)
  have n1 : Builtin.List.listSameRef (.ref S) (.str x t) = false := rfl
  have n2 : (Value.type "str" == Value.type "list") = false := by decide
  have n3 : (Value.type "str" == Value.type "tuple") = false := by decide
  simp only [n1, n2, n3, Bool.or_false, Bool.false_eq_true, if_false]
  refine wpAny_bind (wpAny_pyIter_str fun o St W hst => ?_)
  refine wpAny_bind (wpAny_holding (hint_str ?_))
  rw [if_neg (by decide)]
  have hSf : S ∉ [s.heap.objs.size] := by
    intro hm
    exact Nat.ne_of_lt hlt (List.mem_singleton.mp hm)
  have hS1 := Heap.get?_push_of_some o hS
  refine wpAny_pure ⟨plainId_quiet PySem.F.plain_extend_loop _, ?_⟩
  refine codeAny_extend_loopS (W A.in1 hh).toS hn S hSf res x.cps.size 0 _ #[] c0 rfl (Nat.zero_le _) hst hS1 (ItemsOf.nil _) ?_
  intro s1 acc c' hm hS' hacc
  rw [Moved.eq_with hm]
  refine hR s1.heap s1.toks acc c' ?_ hS' hacc
  intro b ob hb e
  refine hm.heap b ob ?_ (Heap.get?_push_of_some _ e)
  intro hmem
  rcases List.mem_cons.mp hmem with z | hmem
  · exact hb z
  · exact Nat.ne_of_lt (Heap.lt_size e) (List.mem_singleton.mp hmem)
theorem init_str {R : Result → Shared → Prop} (hh : A.handled = none) (x : Str) (t : Tok) (S : Addr) (hS : s.heap.get? S = some { cls := .type "list", data := .seq #[] }) (hn : x.cps.size ≤ sizeLine)
    (hR : ∀ h' tk acc c', (∀ b o, b ≠ S → s.heap.get? b = some o → h'.get? b = some o) → h'.get? S = some { cls := .type "list", dict := none, data := .seq acc c', slots := #[] } → ItemsOf (SignAt x) acc x.cps.size → R (.ok (.ret .none)) { s with heap := h', toks := tk }) :
    wpAny (model prog w) A.in1 (Builtin.«list.__init__» ⟨[.ref S, .str x t], []⟩)
      (fun fin s1 => match fin with | .done f => R (.ok f) s1 | .again c1 => c1.quiet = true ∧ codeAny (model prog w) A c1 R s1) (fun e s1 => R (.error e) s1) s := by
  show wpAny _ _ (do
    let old ← Builtin.List.listItems (.ref S)
    Builtin.List.listUpdate (.ref S) (fun _ => #[])
    letGo old.toList.reverse
    Builtin.List.listExtendWith (.ref S) (.str x t) .none) _ _ s
  refine wpAny_bind ?_
  unfold Builtin.List.listItems
  refine wpAny_bind (wpAny_seqItems hS rfl (wpAny_pure ?_))
  show wpAny _ _ (do
    updateSeq S (fun _ => #[])
    letGo (#[] : Array Value).toList.reverse
    Builtin.List.listExtendWith (.ref S) (.str x t) .none) _ _ s
  refine wpAny_bind (wpAny_updateSeq hS rfl ?_)
  have hS2 := Heap.get?_update_self (Obj.mapSeq (fun _ => (#[] : Array Value))) hS rfl
  refine wpAny_bind (wpAny_letGo ?_)
  refine ext_str hh x t S .none _ hS2 hn ?_
  intro h' tk acc c' hk hS' hacc
  refine hR h' tk acc c' (fun b o hb e => hk b o hb ?_) hS' hacc
  exact (Heap.get?_update_other _ _ (Ne.symm hb)).trans e
theorem list_str {Q : Value → Shared → Prop} (hh : A.handled = none) (x : Str) (t : Tok) (hn : x.cps.size ≤ sizeLine)
    (hQ : ∀ h' tk acc c', (∀ b o, s.heap.get? b = some o → h'.get? b = some o) → h'.get? s.heap.objs.size = some { cls := .type "list", dict := none, data := .seq acc c', slots := #[] } → ItemsOf (SignAt x) acc x.cps.size → Q (.ref s.heap.objs.size) { s with heap := h', toks := tk }) :
    wpAny (model prog w) A (call (.type "list") [.str x t]) Q E s := by
  refine callType_codes (Q₁ := fun obj s1 => obj = .ref s.heap.objs.size ∧ s1 = { s with heap := s.heap.push { cls := .type "list", data := .seq #[] } }) PySem.F.called_list (PySem.F.typeCall_list_1 _) PySem.F.entry_list_init (code_list_new _ ⟨rfl, rfl⟩) ?_
  rintro obj s1 ⟨rfl, rfl⟩
  have hS : (s.heap.push { cls := .type "list", data := .seq #[] }).get? s.heap.objs.size = some { cls := .type "list", data := .seq #[] } := Heap.get?_push_size _ rfl
  refine ⟨⟨_, hS, rfl⟩, PySem.F.args_list_init_2 _ _, init_str (A := A.in1) hh x t _ hS hn ?_⟩
  intro h' tk acc c' hk hS' hacc
  refine ⟨rfl, ?_⟩
  refine hQ h' tk acc c' (fun b o e => hk b o (Nat.ne_of_lt (Heap.lt_size e)) (Heap.get?_push_of_some _ e)) hS' hacc
end

/-- the signs of a text, each a text -/
def signsV (z : Str) : List V := z.cps.toList.map fun c => V.str ⟨#[c]⟩
def rListU (K : PySem.W.Frag) : List V → Hp → VK → Prop := fun xs H Q => match xs with
  | [.ref p] => ∃ ys, (SqL K H p ys ∨ SqT K H p ys) ∧ ∀ l, H l = none → Q (.ref l) (upd H l (.lst ys))
  | [.str z] => z.length ≤ sizeLine ∧ ∀ l, H l = none → Q (.ref l) (upd H l (.lst (signsV z)))
  | _ => False
theorem call_listU {X : Cx} (hc : X.calm = true := by rfl) : CallR X (.type "list") (rListU X.K) := by
  intro pins s σ H xs us Q I r h
  match xs, h with
  | [.ref p], h =>
    obtain ⟨ys, h1, q⟩ := h
    exact call_list_of pins s σ H _ us Q I r ⟨p, ys, rfl, h1, q⟩
  | [.str z], h =>
    obtain ⟨hz, q⟩ := h
    obtain ⟨u, rfl, t, rfl⟩ := vals1 r
    refine list_str (I.ok.hd hc) z t hz ?_
    intro h' tk acc c' hk hS hacc
    have hnew : H s.heap.objs.size = none := I.hok.fresh (Nat.le_refl _)
    have ob : ObjOk X.prog X.w (upd H s.heap.objs.size (.lst (signsV z))) h' s.heap.objs.size (.lst (signsV z)) := by
      refine ⟨?_, acc.toList, c', ?_, by rw [Array.toArray_toList]; exact hS⟩
      · unfold signsV
        rw [List.length_map]
        exact hz
      · refine vals_of_at ?_ ?_
        · unfold signsV
          rw [List.length_map, Array.length_toList, Array.length_toList, hacc.1]
        · intro j v u h1 h2
          rw [Array.getElem?_toList] at h2
          obtain ⟨c, tk2, hc2, rfl⟩ := hacc.2 j u h2
          unfold signsV at h1
          rw [List.getElem?_map, Array.getElem?_toList, hc2] at h1
          cases h1
          exact ⟨_, rfl⟩
    exact ⟨.ref s.heap.objs.size, _, I.laid hk (Nat.le_refl _) ob, rfl, q _ hnew⟩

/-! ### keywords alone, in another order -/
section
variable {K : PySem.W.Frag} {x qual : Str} {st : Stmt} {f : Addr} {fd : FuncData} {ps ks : List Str} {n : Nat} {g : List Value → List Value} {gV : List V → List V}
theorem kbn_of (F : L2.Fun K x qual st f fd) (rel : ∀ {zs : List V} {ws : List Value}, Vals zs ws → Vals (gV zs) (g ws))
    (h : ∀ (kV doc pm : Value) (an : Option Addr) (cdv ct : Value) (us ws : List Value), us.length = n → ws.length = ks.length →
      bindArgs (PySem.W.fnOf x qual (L2.defArgs st) (L2.defBody st) (L2.defScope st) .none kV doc pm an cdv ct) ⟨us, ks.zip ws⟩ = pure (ps.zip (us ++ g ws))) :
    KBn K fd ps n ks (fun us ws => us ++ g ws) (fun vs zs => vs ++ gV zs) := by
  obtain ⟨oc, od, kV, doc, pm, an, cdv, ct, osl, rfl, lk, hcd⟩ := F.ex
  exact ⟨fun s us ws _ h1 h2 => .of_eq (h kV doc pm an cdv ct us ws h1 h2), fun r rz => r.append (rel rz)⟩
end
def pk1_0 {α : Type} : List α → List α
  | [a, b] => [b, a]
  | l => l
def pk3_2_1_0 {α : Type} : List α → List α
  | [a, b, c, d] => [d, c, b, a]
  | l => l
def pk2_1_0 {α : Type} : List α → List α
  | [a, b, c] => [c, b, a]
  | l => l
def pk0 {α : Type} : List α → List α := fun l => l
def pk0_1 {α : Type} : List α → List α := fun l => l
theorem rel0 {zs : List V} {ws : List Value} (r : Vals zs ws) : Vals (pk0 zs) (pk0 ws) := r
theorem rel0_1 {zs : List V} {ws : List Value} (r : Vals zs ws) : Vals (pk0_1 zs) (pk0_1 ws) := r
theorem rel1_0 {zs : List V} {ws : List Value} (r : Vals zs ws) : Vals (pk1_0 zs) (pk1_0 ws) := by
  match zs, ws, r with
  | [], _, .nil => exact .nil
  | [_], _, .cons a .nil => exact .cons a .nil
  | [_, _], _, .cons a (.cons b .nil) => exact .cons b (.cons a .nil)
  | _ :: _ :: _ :: _, _, .cons a (.cons b (.cons c t)) => exact .cons a (.cons b (.cons c t))
theorem rel2_1_0 {zs : List V} {ws : List Value} (r : Vals zs ws) : Vals (pk2_1_0 zs) (pk2_1_0 ws) := by
  match zs, ws, r with
  | [], _, .nil => exact .nil
  | [_], _, .cons a .nil => exact .cons a .nil
  | [_, _], _, .cons a (.cons b .nil) => exact .cons a (.cons b .nil)
  | [_, _, _], _, .cons a (.cons b (.cons c .nil)) => exact .cons c (.cons b (.cons a .nil))
  | _ :: _ :: _ :: _ :: _, _, .cons a (.cons b (.cons c (.cons d t))) => exact .cons a (.cons b (.cons c (.cons d t)))
theorem rel3_2_1_0 {zs : List V} {ws : List Value} (r : Vals zs ws) : Vals (pk3_2_1_0 zs) (pk3_2_1_0 ws) := by
  match zs, ws, r with
  | [], _, .nil => exact .nil
  | [_], _, .cons a .nil => exact .cons a .nil
  | [_, _], _, .cons a (.cons b .nil) => exact .cons a (.cons b .nil)
  | [_, _, _], _, .cons a (.cons b (.cons c .nil)) => exact .cons a (.cons b (.cons c .nil))
  | [_, _, _, _], _, .cons a (.cons b (.cons c (.cons d .nil))) => exact .cons d (.cons c (.cons b (.cons a .nil)))
  | _ :: _ :: _ :: _ :: _ :: _, _, .cons a (.cons b (.cons c (.cons d (.cons e t)))) => exact .cons a (.cons b (.cons c (.cons d (.cons e t))))
end U

/-! U6: comprehensions and loops. -/
namespace U
open PySem PySem.Spec PyProof.Rows L2

/-- J walks n items, wherever what stood in H0 (but S) still stands; it: the item, the heap ahead of the turn and behind the draw -/
structure Src (S : Addr → Prop) (J : It) (H0 : Hp) (n : Nat) (it : Nat → V → Hp → Hp → Prop) : Prop where
  stop : ∀ H', Ext S H0 H' → J.stop n H'
  go : ∀ i H', i < n → Ext S H0 H' → J.go i H'
  yld : ∀ i H' x H2, i < n → Ext S H0 H' → J.yld i H' x H2 → it i x H' H2
section
variable {K : PySem.W.Frag} {S : Addr → Prop} {H0 : Hp} {a : Addr} {xs : List V}
theorem src_list (h : H0 a = some (.lst xs)) (n : ¬ S a) : Src S (Itl K a) H0 xs.length (fun i x H' H2 => H2 = H' ∧ xs[i]? = some x) := by
  refine ⟨fun H' e => ⟨xs, SqL.of (e _ _ n h), Nat.le_refl _⟩, fun i H' hi e => ⟨xs, xs[i], SqL.of (e _ _ n h), by simp [hi]⟩, fun i H' x H2 hi e y => ?_⟩
  obtain ⟨q, y⟩ := y
  exact ⟨q, y xs (SqL.of (e _ _ n h))⟩
theorem src_listK (h : ∀ H : Hp, SqL K H a xs) : Src S (Itl K a) H0 xs.length (fun i x H' H2 => H2 = H' ∧ xs[i]? = some x) := by
  refine ⟨fun H' e => ⟨xs, h H', Nat.le_refl _⟩, fun i H' hi e => ⟨xs, xs[i], h H', by simp [hi]⟩, fun i H' x H2 hi e y => ?_⟩
  obtain ⟨q, y⟩ := y
  exact ⟨q, y xs (h H')⟩
theorem src_tup (h : H0 a = some (.tup xs)) (n : ¬ S a) : Src S (Itt K a) H0 xs.length (fun i x H' H2 => H2 = H' ∧ xs[i]? = some x) := by
  refine ⟨fun H' e => ⟨xs, SqT.of (e _ _ n h), Nat.le_refl _⟩, fun i H' hi e => ⟨xs, xs[i], SqT.of (e _ _ n h), by simp [hi]⟩, fun i H' x H2 hi e y => ?_⟩
  obtain ⟨q, y⟩ := y
  exact ⟨q, y xs (SqT.of (e _ _ n h))⟩
theorem src_tupK (h : ∀ H : Hp, SqT K H a xs) : Src S (Itt K a) H0 xs.length (fun i x H' H2 => H2 = H' ∧ xs[i]? = some x) := by
  refine ⟨fun H' e => ⟨xs, h H', Nat.le_refl _⟩, fun i H' hi e => ⟨xs, xs[i], h H', by simp [hi]⟩, fun i H' x H2 hi e y => ?_⟩
  obtain ⟨q, y⟩ := y
  exact ⟨q, y xs (h H')⟩
theorem src_rng (lo : Int) (n : Nat) : Src S (Itr lo n) H0 n (fun i x H' H2 => H2 = H' ∧ x = .int (lo + (i : Nat))) :=
  ⟨fun _ _ => Nat.le_refl _, fun _ _ hi _ => hi, fun _ _ _ _ _ _ y => y⟩
theorem src_str (z : Str) : Src S (Its z) H0 z.cps.size (fun i x H' H2 => H2 = H' ∧ ∃ c, z.cps[i]? = some c ∧ x = .str ⟨#[c]⟩) :=
  ⟨fun _ _ => Nat.le_refl _, fun _ _ hi _ => hi, fun _ _ _ _ _ _ y => y⟩
end

/-- a comprehension: I says which data may have been gathered behind i turns -/
theorem lc_core {J : It} {H1 : Hp} {n : Nat} {it : Nat → V → Hp → Hp → Prop} {g : TG} {tt : TT} {te : TE} {vs : List Nat} {σ : L2.St} {Q : VK} {D0 : Addr} (hD : H1 D0 = none) (src : Src (fun a => a = D0) J H1 n it) (hn : n ≤ 16777216)
    (I : Nat → List D → Prop) (i0 : I 0 [])
    (step : ∀ i ds H', i < n → I i ds → Ext (fun a => a = D0) H1 H' → ∀ x H2, it i x H' H2 → ∀ (Ky : VK) (Kn : Hp → Prop), (∀ y H5 d, Same H' H5 → Dt N0 H5 y d → D.flat d = true → I (i + 1) (ds ++ [d]) → Ky y H5) → (∀ H5, Same H' H5 → I (i + 1) ds → Kn H5) →
      g x (wipe σ vs) H2 fun σ2 H3 => wipe σ2 vs = wipe σ vs ∧ tt σ2 H3 fun b H4 => if b = true then te σ2 H4 Ky else Kn H4)
    (fin : ∀ H' ds, I n ds → ds.length ≤ n → Same H1 H' → Dt N0 H' (.ref D0) (.lst ds) → Q (.ref D0) H') :
    ∃ W : Nat → Nat → Hp → Prop, (∃ m, W 0 m (upd H1 D0 (.lst []))) ∧ ∀ i m H, W i m H →
      (J.stop i H ∧ Q (.ref D0) H) ∨ (J.go i H ∧ ∃ Nx : Hp → Prop, (∀ H', Nx H' → ∃ m', m' < m ∧ W (i + 1) m' H') ∧ ∀ x H', J.yld i H x H' → g x (wipe σ vs) H' fun σ2 H2 => wipe σ2 vs = wipe σ vs ∧ tt σ2 H2 fun b H3 =>
        if b = true then te σ2 H3 fun y H4 => ∃ acc, H4 D0 = some (.lst acc) ∧ acc.length < sizeLine ∧ Nx (upd H4 D0 (.lst (acc ++ [y]))) else Nx H3) := by
  refine ⟨fun i m H => m = n - i ∧ i ≤ n ∧ Ext (fun a => a = D0) H1 H ∧ ∃ ws ds, H D0 = some (.lst ws) ∧ DtA (fun a => a = D0) H ws ds ∧ I i ds ∧ ds.length ≤ i, ⟨n, rfl, Nat.zero_le _, ?_, [], [], upd_same, .nil, i0, Nat.le_refl _⟩, ?_⟩
  · exact Ext.mut (Ext.refl _) rfl
  · rintro i m H ⟨rfl, hi, hE, ws, ds, hL, hA, hI, hlen⟩
    by_cases hlt : i < n
    · refine .inr ⟨src.go i H hlt hE, fun H' => ∃ ws ds, Ext (fun a => a = D0) H1 H' ∧ H' D0 = some (.lst ws) ∧ DtA (fun a => a = D0) H' ws ds ∧ I (i + 1) ds ∧ ds.length ≤ i + 1, ?_, ?_⟩
      · rintro H' ⟨ws', ds', hE', hL', hA', hI', hl'⟩
        exact ⟨n - (i + 1), by omega, rfl, hlt, hE', ws', ds', hL', hA', hI', hl'⟩
      · intro x H2 hy
        refine step i ds H hlt hI hE x H2 (src.yld i H x H2 hlt hE hy) _ _ ?_ ?_
        · intro y H5 d hS hd0 hfl hI'
          have hd := Dt.nl (hS _ _ hL) d hfl hd0
          refine ⟨ws, hS _ _ hL, ?_, ws ++ [y], ds ++ [d], ?_, upd_same, ?_, hI', by rw [List.length_append, List.length_singleton]; omega⟩
          · rw [hA.length]
            exact Nat.lt_of_le_of_lt hlen (Nat.lt_of_lt_of_le hlt (by rw [sizeLine_eq]; exact hn))
          · exact Ext.mut (hE.trans (Ext.of hS)) rfl
          · have z : DtA (fun a => a = D0) H5 (ws ++ [y]) (ds ++ [d]) := (hA.sm hS).snoc hd
            exact z.go (Ext.mut (Ext.refl _) rfl)
        · intro H5 hS hI'
          exact ⟨ws, ds, hE.trans (Ext.of hS), hS _ _ hL, hA.sm hS, hI', by omega⟩
    · have e : i = n := by omega
      subst e
      refine .inl ⟨src.stop H hE, fin H ds hI hlen (hE.same hD) ?_⟩
      exact .lst (fun z => z) hL hA.n0
/-- the step of a comprehension -/
abbrev LcStep (H1 : Hp) (D0 : Addr) (n : Nat) (it : Nat → V → Hp → Hp → Prop) (I : Nat → List D → Prop) (g : TG) (tt : TT) (te : TE) (vs : List Nat) (σ : L2.St) : Prop :=
  ∀ i ds H', i < n → I i ds → Ext (fun a => a = D0) H1 H' → ∀ x H2, it i x H' H2 → ∀ (Ky : VK) (Kn : Hp → Prop), (∀ y H5 d, Same H' H5 → Dt N0 H5 y d → D.flat d = true → I (i + 1) (ds ++ [d]) → Ky y H5) → (∀ H5, Same H' H5 → I (i + 1) ds → Kn H5) →
      g x (wipe σ vs) H2 fun σ2 H3 => wipe σ2 vs = wipe σ vs ∧ tt σ2 H3 fun b H4 => if b = true then te σ2 H4 Ky else Kn H4
abbrev LcFin (H1 : Hp) (D0 : Addr) (n : Nat) (I : Nat → List D → Prop) (Q : VK) : Prop := ∀ H' ds, I n ds → ds.length ≤ n → Same H1 H' → Dt N0 H' (.ref D0) (.lst ds) → Q (.ref D0) H'
/-- a comprehension that walks J -/
def LcOn (J : It) (g : TG) (tt : TT) (te : TE) (vs : List Nat) (σ : L2.St) (Q : VK) (H1 : Hp) : Prop := ∀ D, H1 D = none → ∃ W : Nat → Nat → Hp → Prop, (∃ m, W 0 m (upd H1 D (.lst []))) ∧ ∀ i m H, W i m H →
  (J.stop i H ∧ Q (.ref D) H) ∨ (J.go i H ∧ ∃ Nx : Hp → Prop, (∀ H', Nx H' → ∃ m', m' < m ∧ W (i + 1) m' H') ∧ ∀ x H', J.yld i H x H' → g x (wipe σ vs) H' fun σ2 H2 => wipe σ2 vs = wipe σ vs ∧ tt σ2 H2 fun b H3 =>
    if b = true then te σ2 H3 fun y H4 => ∃ acc, H4 D = some (.lst acc) ∧ acc.length < sizeLine ∧ Nx (upd H4 D (.lst (acc ++ [y]))) else Nx H3)
def rLcL (K : PySem.W.Frag) (g : TG) (tt : TT) (te : TE) (vs : List Nat) (σ : L2.St) (Q : VK) (x : V) (H1 : Hp) : Prop := ∃ a, x = .ref a ∧ (∃ xs, SqL K H1 a xs) ∧ LcOn (Itl K a) g tt te vs σ Q H1
def rLcT (K : PySem.W.Frag) (g : TG) (tt : TT) (te : TE) (vs : List Nat) (σ : L2.St) (Q : VK) (x : V) (H1 : Hp) : Prop := ∃ a, x = .ref a ∧ (∃ xs, SqT K H1 a xs) ∧ LcOn (Itt K a) g tt te vs σ Q H1
def rLcS (g : TG) (tt : TT) (te : TE) (vs : List Nat) (σ : L2.St) (Q : VK) (x : V) (H1 : Hp) : Prop := ∃ z, x = .str z ∧ LcOn (Its z) g tt te vs σ Q H1
def rLcR (g : TG) (tt : TT) (te : TE) (vs : List Nat) (σ : L2.St) (Q : VK) (x : List V) (H1 : Hp) : Prop := ∃ j : Int, x = [.int j] ∧ -(2 ^ 62) ≤ j ∧ j < 2 ^ 62 ∧ LcOn (Itr 0 j.toNat) g tt te vs σ Q H1
def rLcR2 (g : TG) (tt : TT) (te : TE) (vs : List Nat) (σ : L2.St) (Q : VK) (x : List V) (H1 : Hp) : Prop := ∃ i j : Int, x = [.int i, .int j] ∧ (-(2 ^ 62) ≤ i ∧ i < 2 ^ 62 ∧ -(2 ^ 62) ≤ j ∧ j < 2 ^ 62) ∧ LcOn (Itr i (j - i).toNat) g tt te vs σ Q H1
section
variable {K : PySem.W.Frag} {H H1 : Hp} {a : Addr} {xs : List V} {g : TG} {tt : TT} {te tl : TE} {vs : List Nat} {σ : L2.St} {Q : VK} {ta : TA}
theorem e_lcL : tLc (iList K tl) g tt te vs σ H Q = tl σ H fun x H1 => rLcL K g tt te vs σ Q x H1 := rfl
theorem e_lcT : tLc (iTup K tl) g tt te vs σ H Q = tl σ H fun x H1 => rLcT K g tt te vs σ Q x H1 := rfl
theorem e_lcS : tLc (iStr tl) g tt te vs σ H Q = tl σ H fun x H1 => rLcS g tt te vs σ Q x H1 := rfl
theorem e_lcR : tLc (iRng1 ta) g tt te vs σ H Q = ta σ H fun x H1 => rLcR g tt te vs σ Q x H1 := rfl
theorem e_lcR2 : tLc (iRng2 ta) g tt te vs σ H Q = ta σ H fun x H1 => rLcR2 g tt te vs σ Q x H1 := rfl
theorem ne_fresh {D0 : Addr} {o : HO} (h : H1 a = some o) (hD : H1 D0 = none) : ¬ a = D0 := ne_of_none h hD
theorem lcL (h : H1 a = some (.lst xs)) (hn : xs.length ≤ 16777216) (I : Nat → List D → Prop) (i0 : I 0 [])
    (step : ∀ D0, H1 D0 = none → LcStep H1 D0 xs.length (fun i x H' H2 => H2 = H' ∧ xs[i]? = some x) I g tt te vs σ) (fin : ∀ D0, H1 D0 = none → LcFin H1 D0 xs.length I Q) : rLcL K g tt te vs σ Q (.ref a) H1 :=
  ⟨a, rfl, ⟨xs, SqL.of h⟩, fun D0 hD => lc_core hD (src_list h (ne_fresh h hD)) hn I i0 (step D0 hD) (fin D0 hD)⟩
theorem lcLK (h : ∀ H : Hp, SqL K H a xs) (hn : xs.length ≤ 16777216) (I : Nat → List D → Prop) (i0 : I 0 [])
    (step : ∀ D0, H1 D0 = none → LcStep H1 D0 xs.length (fun i x H' H2 => H2 = H' ∧ xs[i]? = some x) I g tt te vs σ) (fin : ∀ D0, H1 D0 = none → LcFin H1 D0 xs.length I Q) : rLcL K g tt te vs σ Q (.ref a) H1 :=
  ⟨a, rfl, ⟨xs, h _⟩, fun D0 hD => lc_core hD (src_listK h) hn I i0 (step D0 hD) (fin D0 hD)⟩
theorem lcT (h : H1 a = some (.tup xs)) (hn : xs.length ≤ 16777216) (I : Nat → List D → Prop) (i0 : I 0 [])
    (step : ∀ D0, H1 D0 = none → LcStep H1 D0 xs.length (fun i x H' H2 => H2 = H' ∧ xs[i]? = some x) I g tt te vs σ) (fin : ∀ D0, H1 D0 = none → LcFin H1 D0 xs.length I Q) : rLcT K g tt te vs σ Q (.ref a) H1 :=
  ⟨a, rfl, ⟨xs, SqT.of h⟩, fun D0 hD => lc_core hD (src_tup h (ne_fresh h hD)) hn I i0 (step D0 hD) (fin D0 hD)⟩
theorem lcS {z : Str} (hn : z.cps.size ≤ 16777216) (I : Nat → List D → Prop) (i0 : I 0 [])
    (step : ∀ D0, H1 D0 = none → LcStep H1 D0 z.cps.size (fun i x H' H2 => H2 = H' ∧ ∃ c, z.cps[i]? = some c ∧ x = .str ⟨#[c]⟩) I g tt te vs σ) (fin : ∀ D0, H1 D0 = none → LcFin H1 D0 z.cps.size I Q) : rLcS g tt te vs σ Q (.str z) H1 :=
  ⟨z, rfl, fun D0 hD => lc_core hD (src_str z) hn I i0 (step D0 hD) (fin D0 hD)⟩
theorem lcR {n : Int} (hn : n ≤ 16777216) (hn0 : -16777216 ≤ n) (I : Nat → List D → Prop) (i0 : I 0 [])
    (step : ∀ D0, H1 D0 = none → LcStep H1 D0 n.toNat (fun i x H' H2 => H2 = H' ∧ x = .int (i : Nat)) I g tt te vs σ) (fin : ∀ D0, H1 D0 = none → LcFin H1 D0 n.toNat I Q) : rLcR g tt te vs σ Q [.int n] H1 := by
  refine ⟨n, rfl, by omega, by omega, fun D0 hD => lc_core hD (src_rng 0 n.toNat) (by omega) I i0 ?_ (fin D0 hD)⟩
  rintro i ds H' hi hI hE x H2 ⟨e1, e2⟩
  exact step D0 hD i ds H' hi hI hE x H2 ⟨e1, by rw [e2, Int.zero_add]⟩
theorem lcR2 {lo n : Int} (hn : n ≤ 16777216) (hn0 : -16777216 ≤ n) (hl0 : 0 ≤ lo) (hl1 : lo ≤ 16777216) (I : Nat → List D → Prop) (i0 : I 0 [])
    (step : ∀ D0, H1 D0 = none → LcStep H1 D0 (n - lo).toNat (fun i x H' H2 => H2 = H' ∧ x = .int (lo + (i : Nat))) I g tt te vs σ) (fin : ∀ D0, H1 D0 = none → LcFin H1 D0 (n - lo).toNat I Q) : rLcR2 g tt te vs σ Q [.int lo, .int n] H1 :=
  ⟨lo, n, rfl, ⟨by omega, by omega, by omega, by omega⟩, fun D0 hD => lc_core hD (src_rng lo _) (by omega) I i0 (step D0 hD) (fin D0 hD)⟩
end

/-! ### for -/
theorem for_core {J : It} {H1 : Hp} {n : Nat} {it : Nat → V → Hp → Hp → Prop} {S : Addr → Prop} {g : TG} {tb : TS} {σ : L2.St} {D0 : Ends} (src : Src S J H1 n it)
    (I : Nat → L2.St → Hp → Prop) (i0 : I 0 σ H1) (stay : ∀ i σ' H', I i σ' H' → Ext S H1 H')
    (step : ∀ i σ' H', i < n → I i σ' H' → ∀ x H2, it i x H' H2 → g x σ' H2 fun σ2 H3 => tb { D0 with nx := I (i + 1), ct := I (i + 1), bk := D0.nx } σ2 H3)
    (fin : ∀ σ' H', I n σ' H' → D0.nx σ' H') :
    ∃ W : Nat → Nat → L2.St → Hp → Prop, (∃ m, W 0 m σ H1) ∧ ∀ i m σ H, W i m σ H →
      (J.stop i H ∧ D0.nx σ H) ∨ (J.go i H ∧ ∃ N : L2.St → Hp → Prop, (∀ σ' H', N σ' H' → ∃ m', m' < m ∧ W (i + 1) m' σ' H') ∧ ∀ x H', J.yld i H x H' → g x σ H' fun σ2 H2 => tb { D0 with nx := N, ct := N, bk := D0.nx } σ2 H2) := by
  refine ⟨fun i m σ' H' => m = n - i ∧ i ≤ n ∧ I i σ' H', ⟨n, rfl, Nat.zero_le _, i0⟩, ?_⟩
  rintro i m σ' H' ⟨rfl, hi, hI⟩
  by_cases hlt : i < n
  · refine .inr ⟨src.go i H' hlt (stay _ _ _ hI), I (i + 1), fun σ2 H2 q => ⟨n - (i + 1), by omega, rfl, hlt, q⟩, fun x H2 y => ?_⟩
    exact step i σ' H' hlt hI x H2 (src.yld i H' x H2 hlt (stay _ _ _ hI) y)
  · have e : i = n := by omega
    subst e
    exact .inl ⟨src.stop H' (stay _ _ _ hI), fin σ' H' hI⟩
/-- a loop that walks J -/
def ForOn (J : It) (g : TG) (tb : TS) (D0 : Ends) (σ : L2.St) (H1 : Hp) : Prop := ∃ W : Nat → Nat → L2.St → Hp → Prop, (∃ m, W 0 m σ H1) ∧ ∀ i m σ H, W i m σ H →
  (J.stop i H ∧ D0.nx σ H) ∨ (J.go i H ∧ ∃ N : L2.St → Hp → Prop, (∀ σ' H', N σ' H' → ∃ m', m' < m ∧ W (i + 1) m' σ' H') ∧ ∀ x H', J.yld i H x H' → g x σ H' fun σ2 H2 => tb { D0 with nx := N, ct := N, bk := D0.nx } σ2 H2)
def rForL (K : PySem.W.Frag) (g : TG) (tb : TS) (D0 : Ends) (σ : L2.St) (x : V) (H1 : Hp) : Prop := ∃ a, x = .ref a ∧ (∃ xs, SqL K H1 a xs) ∧ ForOn (Itl K a) g tb D0 σ H1
def rForT (K : PySem.W.Frag) (g : TG) (tb : TS) (D0 : Ends) (σ : L2.St) (x : V) (H1 : Hp) : Prop := ∃ a, x = .ref a ∧ (∃ xs, SqT K H1 a xs) ∧ ForOn (Itt K a) g tb D0 σ H1
def rForR (g : TG) (tb : TS) (D0 : Ends) (σ : L2.St) (x : List V) (H1 : Hp) : Prop := ∃ j : Int, x = [.int j] ∧ -(2 ^ 62) ≤ j ∧ j < 2 ^ 62 ∧ ForOn (Itr 0 j.toNat) g tb D0 σ H1
def rForR2 (g : TG) (tb : TS) (D0 : Ends) (σ : L2.St) (x : List V) (H1 : Hp) : Prop := ∃ i j : Int, x = [.int i, .int j] ∧ (-(2 ^ 62) ≤ i ∧ i < 2 ^ 62 ∧ -(2 ^ 62) ≤ j ∧ j < 2 ^ 62) ∧ ForOn (Itr i (j - i).toNat) g tb D0 σ H1
section
variable {K : PySem.W.Frag} {S : Addr → Prop} {H H1 : Hp} {a : Addr} {xs : List V} {g : TG} {tb : TS} {tl : TE} {σ : L2.St} {D0 : Ends} {ta : TA}
theorem e_forL : tFor (iList K tl) g tb D0 σ H = tl σ H fun x H1 => rForL K g tb D0 σ x H1 := rfl
theorem e_forT : tFor (iTup K tl) g tb D0 σ H = tl σ H fun x H1 => rForT K g tb D0 σ x H1 := rfl
theorem e_forR : tFor (iRng1 ta) g tb D0 σ H = ta σ H fun x H1 => rForR g tb D0 σ x H1 := rfl
theorem e_forR2 : tFor (iRng2 ta) g tb D0 σ H = ta σ H fun x H1 => rForR2 g tb D0 σ x H1 := rfl
theorem forL (h : H1 a = some (.lst xs)) (hS : ¬ S a) (I : Nat → L2.St → Hp → Prop) (i0 : I 0 σ H1) (stay : ∀ i σ' H', I i σ' H' → Ext S H1 H')
    (step : ∀ i x σ' H', xs[i]? = some x → I i σ' H' → g x σ' H' fun σ2 H3 => tb { D0 with nx := I (i + 1), ct := I (i + 1), bk := D0.nx } σ2 H3) (fin : ∀ σ' H', I xs.length σ' H' → D0.nx σ' H') : rForL K g tb D0 σ (.ref a) H1 :=
  ⟨a, rfl, ⟨xs, SqL.of h⟩, for_core (src_list h hS) I i0 stay (fun i σ' H' _ hI x H2 y => by obtain ⟨rfl, y⟩ := y; exact step i x σ' _ y hI) fin⟩
theorem forT (h : H1 a = some (.tup xs)) (hS : ¬ S a) (I : Nat → L2.St → Hp → Prop) (i0 : I 0 σ H1) (stay : ∀ i σ' H', I i σ' H' → Ext S H1 H')
    (step : ∀ i x σ' H', xs[i]? = some x → I i σ' H' → g x σ' H' fun σ2 H3 => tb { D0 with nx := I (i + 1), ct := I (i + 1), bk := D0.nx } σ2 H3) (fin : ∀ σ' H', I xs.length σ' H' → D0.nx σ' H') : rForT K g tb D0 σ (.ref a) H1 :=
  ⟨a, rfl, ⟨xs, SqT.of h⟩, for_core (src_tup h hS) I i0 stay (fun i σ' H' _ hI x H2 y => by obtain ⟨rfl, y⟩ := y; exact step i x σ' _ y hI) fin⟩
theorem forTK (h : ∀ H : Hp, SqT K H a xs) (I : Nat → L2.St → Hp → Prop) (i0 : I 0 σ H1)
    (step : ∀ i x σ' H', xs[i]? = some x → I i σ' H' → g x σ' H' fun σ2 H3 => tb { D0 with nx := I (i + 1), ct := I (i + 1), bk := D0.nx } σ2 H3) (fin : ∀ σ' H', I xs.length σ' H' → D0.nx σ' H') : rForT K g tb D0 σ (.ref a) H1 :=
  ⟨a, rfl, ⟨xs, h _⟩, for_core (S := fun _ => True) (src_tupK h) I i0 (fun _ _ _ _ b o k => (k trivial).elim) (fun i σ' H' _ hI x H2 y => by obtain ⟨rfl, y⟩ := y; exact step i x σ' _ y hI) fin⟩
theorem forR {n : Int} (hn : n ≤ 16777216) (hn0 : -16777216 ≤ n) (I : Nat → L2.St → Hp → Prop) (i0 : I 0 σ H1)
    (step : ∀ (i : Nat) σ' H', (i : Int) < n → I i σ' H' → g (.int (i : Nat)) σ' H' fun σ2 H3 => tb { D0 with nx := I (i + 1), ct := I (i + 1), bk := D0.nx } σ2 H3) (fin : ∀ σ' H', I n.toNat σ' H' → D0.nx σ' H') : rForR g tb D0 σ [.int n] H1 := by
  refine ⟨n, rfl, by omega, by omega, for_core (S := fun _ => True) (src_rng 0 n.toNat) I i0 (fun _ _ _ _ b o k => (k trivial).elim) ?_ fin⟩
  rintro i σ' H' hi hI x H2 ⟨rfl, e2⟩
  rw [e2, Int.zero_add]
  exact step i σ' _ (by omega) hI
theorem forR2 {lo n : Int} (hn : n ≤ 16777216) (hn0 : -16777216 ≤ n) (hl0 : 0 ≤ lo) (hl1 : lo ≤ 16777216) (I : Nat → L2.St → Hp → Prop) (i0 : I 0 σ H1)
    (step : ∀ (i : Nat) σ' H', lo + (i : Int) < n → I i σ' H' → g (.int (lo + (i : Nat))) σ' H' fun σ2 H3 => tb { D0 with nx := I (i + 1), ct := I (i + 1), bk := D0.nx } σ2 H3) (fin : ∀ σ' H', I (n - lo).toNat σ' H' → D0.nx σ' H') : rForR2 g tb D0 σ [.int lo, .int n] H1 := by
  refine ⟨lo, n, rfl, ⟨by omega, by omega, by omega, by omega⟩, for_core (S := fun _ => True) (src_rng lo _) I i0 (fun _ _ _ _ b o k => (k trivial).elim) ?_ fin⟩
  rintro i σ' H' hi hI x H2 ⟨rfl, e2⟩
  rw [e2]
  exact step i σ' _ (by omega) hI
end
end U

/-! U7: shorteners, rows and what they show, in plain Lean; their data. -/
namespace U
open PySem PySem.Spec PyProof.Rows L2

/-- the text of one sign; of codes -/
def one (c : Nat) : Str := ⟨#[c]⟩
def ofL (l : List Nat) : Str := ⟨l.toArray⟩
def cd (z : Str) : List Nat := z.cps.toList
theorem cd_ofL (l : List Nat) : cd (ofL l) = l := rfl
theorem ofL_cd (z : Str) : ofL (cd z) = z := by
  unfold ofL cd
  rw [Array.toArray_toList]
theorem cd_inj {a b : Str} (h : cd a = cd b) : a = b := by
  rw [← ofL_cd a, ← ofL_cd b, h]
theorem cd_len (z : Str) : (cd z).length = z.length := by
  unfold cd
  rw [Array.length_toList]
  rfl
theorem cd_size (z : Str) : z.cps.size = (cd z).length := by
  unfold cd
  rw [Array.length_toList]
def sgn (c : Nat) : D := .str (one c)
def SIGNS : Str := PySem.Str.ofString ".0123456789abcdefghijklmnopqrstuvwxyz~"
def signs : List Nat := cd SIGNS
def isSign (c : Nat) : Bool := decide (c ∈ signs)
/-- a text of at most n signs -/
def okText (n : Nat) (z : Str) : Bool := decide (z.length ≤ n) && (cd z).all isSign
theorem okText_iff {n : Nat} {z : Str} : okText n z = true ↔ z.length ≤ n ∧ ∀ c ∈ cd z, c ∈ signs := by
  unfold okText isSign
  rw [Bool.and_eq_true, List.all_eq_true]
  simp

structure Sh where
  limit : Nat
  head : Nat
  tail : Nat
  mark : Str
def Sh.ok (s : Sh) : Prop := s.limit ≤ 40 ∧ s.head ≤ 40 ∧ s.tail ≤ 40 ∧ okText 3 s.mark = true
/-- what a shortener leaves of a list; f: how a sign of the mark stands there -/
def cutP {α : Type} (f : Nat → α) (s : Sh) (xs : List α) : List α :=
  if xs.length ≤ s.limit then xs else xs.take s.head ++ (cd s.mark).map f ++ xs.drop (xs.length - s.tail)
def cutR {α : Type} (f : Nat → α) (row : List Sh) (xs : List α) : List α := row.foldl (fun ys s => cutP f s ys) xs
theorem cutR_nil {α : Type} (f : Nat → α) (xs : List α) : cutR f [] xs = xs := rfl
theorem cutR_cons {α : Type} (f : Nat → α) (s : Sh) (row : List Sh) (xs : List α) : cutR f (s :: row) xs = cutR f row (cutP f s xs) := rfl
theorem cutR_snoc {α : Type} (f : Nat → α) (s : Sh) (row : List Sh) (xs : List α) : cutR f (row ++ [s]) xs = cutP f s (cutR f row xs) := by
  unfold cutR
  rw [List.foldl_append]
  rfl
theorem cutR_append {α : Type} (f : Nat → α) (r1 r2 : List Sh) (xs : List α) : cutR f (r1 ++ r2) xs = cutR f r2 (cutR f r1 xs) := by
  unfold cutR
  rw [List.foldl_append]
theorem cutP_map {α β : Type} (f : Nat → α) (g : α → β) (s : Sh) (xs : List α) : cutP (fun c => g (f c)) s (xs.map g) = (cutP f s xs).map g := by
  unfold cutP
  rw [List.length_map]
  split
  · rfl
  · rw [List.map_append, List.map_append, List.map_take, List.map_drop, List.map_map]
    rfl
theorem cutR_map {α β : Type} (f : Nat → α) (g : α → β) : ∀ (row : List Sh) (xs : List α), cutR (fun c => g (f c)) row (xs.map g) = (cutR f row xs).map g
  | [], _ => rfl
  | s :: row, xs => by
    rw [cutR_cons, cutR_cons, cutP_map, cutR_map f g row]
/-- what a row shows of a text -/
def showC (row : List Sh) (l : List Nat) : List Nat := cutR id row l
def showS (row : List Sh) (z : Str) : Str := ofL (showC row (cd z))
theorem cutR_sgn (row : List Sh) (l : List Nat) : cutR sgn row (l.map sgn) = (showC row l).map sgn := cutR_map id sgn row l
theorem cutP_len {α : Type} (f : Nat → α) (s : Sh) (xs : List α) : (cutP f s xs).length ≤ xs.length + s.mark.length + xs.length := by
  unfold cutP
  split
  · omega
  · rw [List.length_append, List.length_append, List.length_map, cd_len, List.length_take, List.length_drop]
    omega
/-- no more than the limit, or than head, mark and tail together -/
theorem cutP_le {α : Type} (f : Nat → α) {s : Sh} (h : s.ok) (xs : List α) : (cutP f s xs).length ≤ 83 ∨ (cutP f s xs).length ≤ 40 := by
  obtain ⟨h1, h2, h3, h4⟩ := h
  have h5 := (okText_iff.mp h4).1
  left
  unfold cutP
  split
  · omega
  · rw [List.length_append, List.length_append, List.length_map, cd_len, List.length_take, List.length_drop]
    omega
theorem cutP_le83 {α : Type} (f : Nat → α) {s : Sh} (h : s.ok) (xs : List α) : (cutP f s xs).length ≤ 83 := by
  rcases cutP_le f h xs with z | z <;> omega
theorem cutR_le {α : Type} (f : Nat → α) : ∀ {row : List Sh} (_ : ∀ s ∈ row, s.ok) (xs : List α) {n : Nat}, xs.length ≤ n → 83 ≤ n → (cutR f row xs).length ≤ n
  | [], _, xs, n, h, _ => h
  | s :: row, hr, xs, n, _, h2 => by
    rw [cutR_cons]
    exact cutR_le f (fun t ht => hr t (List.mem_cons_of_mem _ ht)) _ (Nat.le_trans (cutP_le83 f (hr s List.mem_cons_self) xs) h2) h2
theorem cutP_all {α : Type} {f : Nat → α} {s : Sh} {P : α → Prop} (hm : ∀ c ∈ cd s.mark, P (f c)) {xs : List α} (hx : ∀ x ∈ xs, P x) : ∀ x ∈ cutP f s xs, P x := by
  intro x h
  unfold cutP at h
  split at h
  · exact hx x h
  · rcases List.mem_append.mp h with h | h
    · rcases List.mem_append.mp h with h | h
      · exact hx x (List.mem_of_mem_take h)
      · obtain ⟨c, hc, rfl⟩ := List.mem_map.mp h
        exact hm c hc
    · exact hx x (List.mem_of_mem_drop h)
theorem cutR_all {α : Type} {f : Nat → α} {P : α → Prop} : ∀ {row : List Sh} (_ : ∀ s ∈ row, ∀ c ∈ cd s.mark, P (f c)) {xs : List α} (_ : ∀ x ∈ xs, P x), ∀ x ∈ cutR f row xs, P x
  | [], _, _, hx => hx
  | s :: row, hm, xs, hx => by
    rw [cutR_cons]
    exact cutR_all (fun t ht => hm t (List.mem_cons_of_mem _ ht)) (cutP_all (hm s List.mem_cons_self) hx)
theorem showS_ok {row : List Sh} (hr : ∀ s ∈ row, s.ok) {z : Str} {n : Nat} (hz : okText n z = true) (hn : 83 ≤ n) : okText n (showS row z) = true := by
  obtain ⟨h1, h2⟩ := okText_iff.mp hz
  refine okText_iff.mpr ⟨?_, ?_⟩
  · rw [← cd_len]
    show (showC row (cd z)).length ≤ n
    exact cutR_le id hr _ (by rw [cd_len]; exact h1) hn
  · show ∀ c ∈ showC row (cd z), c ∈ signs
    exact cutR_all (P := fun c => c ∈ signs) (fun s hs c hc => (okText_iff.mp (hr s hs).2.2.2).2 c hc) h2

/-! ### their data -/
def toldD (s : Sh) : D := .tup [.int s.limit, .int s.head, .int s.tail, .str s.mark]
def shNs : List Str := ["limit", "head", "tail", "mark", "told"]
def shD (C : Addr) (s : Sh) : D := .ins C shNs [.int s.limit, .int s.head, .int s.tail, .str s.mark, toldD s]
theorem toldD_flat (s : Sh) : D.flat (toldD s) = true := by simp [toldD, D.flat, D.flats]
theorem shD_flat (C : Addr) (s : Sh) : D.flat (shD C s) = true := by simp [shD, toldD, D.flat, D.flats]
def rowD (C : Addr) (row : List Sh) : D := .tup (row.map (shD C))
def toldsD (row : List Sh) : D := .lst (row.map toldD)
def signsD (l : List Nat) : List D := l.map sgn
theorem sgn_flat (c : Nat) : D.flat (sgn c) = true := rfl
theorem dt_signs {S : Addr → Prop} {H : Hp} : ∀ l : List Nat, DtA S H (l.map fun c => V.str (one c)) (l.map sgn)
  | [] => .nil
  | c :: l => .cons (.str _) (dt_signs l)
theorem dt_signsV {S : Addr → Prop} {H : Hp} (z : Str) : DtA S H (signsV z) ((cd z).map sgn) := dt_signs (cd z)
/-- a list at an address, a tuple -/
theorem dt_lst {S : Addr → Prop} {H : Hp} {v : V} {ds : List D} (h : Dt S H v (.lst ds)) : ∃ a xs, v = .ref a ∧ ¬ S a ∧ H a = some (.lst xs) ∧ DtA S H xs ds := by
  cases h with
  | lst n ha hs => exact ⟨_, _, rfl, n, ha, hs⟩
theorem dt_tup {S : Addr → Prop} {H : Hp} {v : V} {ds : List D} (h : Dt S H v (.tup ds)) : ∃ a xs, v = .ref a ∧ ¬ S a ∧ H a = some (.tup xs) ∧ DtA S H xs ds := by
  cases h with
  | tup n ha hs => exact ⟨_, _, rfl, n, ha, hs⟩
theorem join_one1 (l : List Nat) : Txt.join (PySem.Str.ofString "") (l.map one) = ofL l := by
  have e := SX.join_S [] (l.map fun c => [c])
  rw [List.map_map] at e
  have e1 : SX.S [] = PySem.Str.ofString "" := rfl
  have e2 : (SX.S ∘ fun c => [c]) = one := rfl
  rw [e1, e2] at e
  rw [e]
  have h : ∀ l : List Nat, TL.joinL [] (l.map fun c => [c]) = l := by
    intro l
    induction l with
    | nil => rfl
    | cons c r ih =>
      cases r with
      | nil => rfl
      | cons d t =>
        show [c] ++ [] ++ TL.joinL [] ((d :: t).map fun c => [c]) = c :: d :: t
        rw [ih]
        rfl
  rw [h]
  rfl
end U

/-! U8: the rules with the written part told (so that they go within a comprehension, too). -/
namespace U
open PySem PySem.Spec PyProof.Rows L2 StX
section
variable {X : Cx} {K : PySem.W.Frag} {e o a b : Expr} {te to : TE} {tg : Expr} {ta : TA}
theorem op_eqK (h : X.K = K) (hu : X.A.units + 64 < cLine) : OpR X (compareOp .Eq) (rEqU K) := by subst h; exact op_eqU hu
theorem op_neK (h : X.K = K) (hu : X.A.units + 64 < cLine) : OpR X (compareOp .NotEq) (rNeU K) := by subst h; exact op_neU hu
theorem op_inK (h : X.K = K) : OpR X (compareOp .In) (rInU K) := by subst h; exact op_inU
theorem op_ninK (h : X.K = K) : OpR X (compareOp .NotIn) (rNinU K) := by subst h; exact op_ninU
theorem ix_K (h : X.K = K) : IxR X (rIxU K) := by subst h; exact ix_U
theorem sl_K (h : X.K = K) : SlR X (rSlU K) := by subst h; exact sl_U
theorem call_lenK (h : X.K = K) : CallR X (.builtin "len") (rLenU K) := by subst h; exact call_lenU
theorem call_listK (h : X.K = K) (hc : X.calm = true) : CallR X (.type "list") (rListU K) := by subst h; exact call_listU hc
theorem call_isiK (h : X.K = K) : CallR X (.builtin "isinstance") (rIsi K) := by subst h; exact call_isi
theorem cr_allK (h : X.K = K) (hc : X.calm = true) : CallR X (.builtin "all") (rAll K) := by subst h; exact cr_all hc
theorem cr_anyK (h : X.K = K) (hc : X.calm = true) : CallR X (.builtin "any") (rAny K) := by subst h; exact cr_any hc
theorem cr_maxK (h : X.K = K) (hc : X.calm = true) : CallR X (.builtin "max") (rMax K) := by subst h; exact cr_max hc
theorem cr_minK (h : X.K = K) (hc : X.calm = true) : CallR X (.builtin "min") (rMin K) := by subst h; exact cr_min hc
theorem cr_sumK (h : X.K = K) (hc : X.calm = true) : CallR X (.builtin "sum") (rSum K) := by subst h; exact cr_sum hc
theorem call_reprK (h : X.K = K) (hg : X.A.guards = some []) (hu : X.A.units + 64 < cLine) : CallR X (.builtin "repr") (rRepr K) := by subst h; exact call_repr hg hu
theorem pe_fldK (h : X.K = K) {f : Str} {pos : Pos} (he : PE X e te) (hb : attributeBase e f X.env (eval e X.env) = eval e X.env := by rfl) : PE X (.Attribute e f pos) (tFld K te f) := by subst h; exact pe_fld he hb
theorem pi_listK (h : X.K = K) (he : PE X e te) : PI X tg e (iList K te) := by subst h; exact pi_list he
theorem pi_tupK (h : X.K = K) (he : PE X e te) : PI X tg e (iTup K te) := by subst h; exact pi_tup he
theorem pa_starK (h : X.K = K) {es : List Expr} {t : TA} {p : Pos} (he : PE X e te) (hr : PA X es t) (hs : starEach (.Starred e p :: es) X.env = (true, eval e X.env) :: starEach es X.env := by rfl) : PA X (.Starred e p :: es) (tStar K te t) := by subst h; exact pa_star he hr hs
/-- '..'.join(xs) -/
def rJoin (K : PySem.W.Frag) : V → List V → Hp → VK → Prop := fun x xs H Q => ∃ a p, ∃ ys : List Str, x = .str a ∧ xs = [.ref p] ∧ (SqL K H p (ys.map V.str) ∨ SqT K H p (ys.map V.str)) ∧ (ys.map (·.length)).sum + ys.length * a.length ≤ 16777216 ∧ Q (.str (Txt.join a ys)) H
theorem pe_joinK (h : X.K = K) {apos pos : Pos} (ho : PE X o to) (he : PE X e te) (hs : starEach [e] X.env = [(false, eval e X.env)] := by rfl) (hbase : attributeBase o "join" X.env (eval o X.env) = eval o X.env := by rfl) (hline : (apos.endLine == pos.line) = true := by rfl) :
    PE X (.Call (.Attribute o "join" apos) [e] [] pos) (tM1 (rJoin K) to te) := by subst h; exact pe_join ho he hs hbase hline
/-- tuple(xs) -/
theorem pe_tupOfK (h : X.K = K) {p pos : Pos} (hg : Gl X "tuple") (hm : X.mg "tuple" = none) (he : PE X e te) (na : starEach [e] X.env = (false, eval e X.env) :: starEach [] X.env := by rfl) : PE X (.Call (.Name "tuple" p) [e] [] pos) (tThen te (kTup K)) := by
  subst h
  exact pe_tupleOf hg hm he na
theorem e_then {σ : L2.St} {H : Hp} {Q : VK} {k : V → Hp → VK → Prop} : tThen te k σ H Q = te σ H fun x H1 => k x H1 Q := rfl
theorem e_star {σ : L2.St} {H : Hp} {Q : List V → Hp → Prop} {t : TA} : tStar K te t σ H Q = te σ H fun x H1 => ∃ p xs, x = V.ref p ∧ (SqT K H1 p xs ∨ SqL K H1 p xs) ∧ t σ H1 fun ys H2 => Q (xs ++ ys) H2 := rfl
/-- a star display's part: a list at p -/
theorem star_l {p : Addr} {xs : List V} {H : Hp} {R : List V → Prop} (h : H p = some (.lst xs)) (r : R xs) : ∃ q ys, V.ref p = V.ref q ∧ (SqT K H q ys ∨ SqL K H q ys) ∧ R ys := ⟨p, xs, rfl, .inr (SqL.of h), r⟩
end
end U
namespace U
open PySem PySem.Spec PyProof.Rows L2
theorem e_yes {σ : L2.St} {H : Hp} {R : Bool → Hp → Prop} : tYes σ H R = R true H := rfl
end U
namespace U
theorem take_snoc {α : Type} {l : List α} {i : Nat} {c : α} (h : l[i]? = some c) : l.take (i + 1) = l.take i ++ [c] := by
  rw [List.take_add_one, h]
  rfl
theorem take_map {α β : Type} {l : List α} {i : Nat} {c : α} (f : α → β) (h : l[i]? = some c) : (l.take i).map f ++ [f c] = (l.take (i + 1)).map f := by
  rw [take_snoc h, List.map_append]
  rfl
theorem cd_get {z : PySem.Str} {i c : Nat} (h : z.cps[i]? = some c) : (cd z)[i]? = some c := by
  unfold cd
  rw [Array.getElem?_toList]
  exact h
end U
namespace U
open PySem PySem.Spec PyProof.Rows L2
theorem e_sfld {σ : L2.St} {H : Hp} {D0 : Ends} {K : PySem.W.Frag} {ta tv : TE} {f : Str} : sFld K ta tv f D0 σ H = tv σ H fun y H1 => ta σ H1 fun x H2 => ∃ a C dx fs, x = .ref a ∧ H2 a = some (.ins C dx fs) ∧ Cls K C ∧ NoAttr K C f ∧ fs.length < 1000 ∧ D0.nx σ (upd H2 a (.ins C dx (putF f y fs))) := rfl
theorem sh_f1 (l : V) : putF "limit" l [] = [(("limit" : Str), l)] := rfl
theorem sh_f2 (l h : V) : putF "head" h [(("limit" : Str), l)] = [(("limit" : Str), l), ("head", h)] := by rfl
theorem sh_f3 (l h t : V) : putF "tail" t [(("limit" : Str), l), ("head", h)] = [(("limit" : Str), l), ("head", h), ("tail", t)] := by rfl
theorem sh_f4 (l h t m : V) : putF "mark" m [(("limit" : Str), l), ("head", h), ("tail", t)] = [(("limit" : Str), l), ("head", h), ("tail", t), ("mark", m)] := by rfl
theorem sh_f5 (l h t m d : V) : putF "told" d [(("limit" : Str), l), ("head", h), ("tail", t), ("mark", m)] = [(("limit" : Str), l), ("head", h), ("tail", t), ("mark", m), ("told", d)] := by rfl
/-- a new instance, its own dict -/
theorem made_same {H H' : Hp} {x dx C : Addr} (h : Ext (fun a => a = x) (upd (upd H dx (.own x)) x (.ins C dx [])) H') (nx : H x = none) (nd : H dx = none) : Same H H' := fun b o e => by
  have n1 := ne_of_none e nx
  have n2 := ne_of_none e nd
  exact h b o n1 (by rw [upd_ne n1, upd_ne n2]; exact e)
/-- the fields of a shortener -/
structure ShF (S : Addr → Prop) (H : Hp) (C : Addr) (a : Addr) (s : Sh) : Prop where
  ex : ∃ dx t, ¬ S a ∧ H a = some (.ins C dx [(("limit" : Str), .int s.limit), ("head", .int s.head), ("tail", .int s.tail), ("mark", .str s.mark), ("told", t)]) ∧ Dt S H t (toldD s)
theorem shF_of {S : Addr → Prop} {H : Hp} {C : Addr} {v : V} {s : Sh} (h : Dt S H v (shD C s)) : ∃ a, v = .ref a ∧ ShF S H C a s := by
  unfold shD at h
  cases h with
  | @ins a _ dx fs _ _ n ha hn hs =>
    refine ⟨a, rfl, dx, ?_⟩
    match fs, hn, hs with
    | [(_, _), (_, _), (_, _), (_, _), (_, _)], hn, .cons h1 (.cons h2 (.cons h3 (.cons h4 (.cons h5 .nil)))) =>
      simp only [shNs, List.map_cons, List.map_nil, List.cons.injEq, and_true] at hn
      obtain ⟨rfl, rfl, rfl, rfl, rfl⟩ := hn
      cases h1
      cases h2
      cases h3
      cases h4
      exact ⟨_, n, ha, h5⟩
theorem dt_sh {S : Addr → Prop} {H : Hp} {C a dx : Addr} {s : Sh} {t : V} (n : ¬ S a) (h : H a = some (.ins C dx [(("limit" : Str), .int s.limit), ("head", .int s.head), ("tail", .int s.tail), ("mark", .str s.mark), ("told", t)])) (ht : Dt S H t (toldD s)) : Dt S H (.ref a) (shD C s) :=
  .ins n h rfl (.cons (.int _) (.cons (.int _) (.cons (.int _) (.cons (.str _) (.cons ht .nil)))))
end U
namespace U
open PySem PySem.Spec PyProof.Rows L2
section
variable {σ : L2.St} {H : Hp} {R : L2.St → Hp → Prop} {K : PySem.W.Frag}
theorem e_gcons {t : TG} {u : TGs} {x : V} {r : List V} : gCons t u (x :: r) σ H R = t x σ H fun σ1 H1 => u r σ1 H1 R := by
  apply propext
  constructor
  · rintro ⟨v, l, h, q⟩
    cases h
    exact q
  · exact fun q => ⟨x, r, rfl, q⟩
theorem e_gnil : gNil [] σ H R = R σ H := by
  apply propext
  exact ⟨fun q => q.2, fun q => ⟨rfl, q⟩⟩
theorem e_gtup {n : Nat} {t : TGs} {v : V} : gTup K n t v σ H R = ∃ a xs, v = .ref a ∧ SqT K H a xs ∧ xs.length = n ∧ t xs σ H R := rfl
theorem e_gsub {to ti : TE} {t : TSet} {v : V} : gSub to ti t v σ H R = to σ H fun o H1 => ti σ H1 fun i H2 => t o i v H2 fun H3 => R σ H3 := rfl
theorem pg_tupK {X : Cx} (h : X.K = K) {es : List Expr} {k : Nat} {pos : Pos} {t : TGs} {n : Nat} (hc : X.calm = true) (ht : PGs X es t) (hn : (assignEach es X.env).length = n := by rfl) (hst : (assignEach es X.env).findIdx? (·.1) = none := by rfl) : PG X (.Tuple es k pos) (gTup K n t) := by
  subst h
  exact pg_tup hc ht hn hst
end
end U
namespace U
open PySem PySem.Spec PyProof.Rows L2
section
variable {σ : L2.St} {H : Hp} {Q : VK} {K : PySem.W.Frag}
theorem e_make {C : Addr} {sp : Sp} {dvs : List V} {E : XK} {t : TA} : tMake C sp dvs E t σ H Q = t σ H fun vs H1 => ∀ x dx, H1 x = none → H1 dx = none → dx ≠ x → sp (.ref x :: (vs ++ dvs)) (upd (upd H1 dx (.own x)) x (.ins C dx [])) (fun v H2 => v = .non ∧ Q (.ref x) H2) E := rfl
theorem e_makeK {C : Addr} {n m : Nat} {sp : Sp} {gV : List V → List V → List V} {E : XK} {t tk : TA} : tMakeK C n m sp gV E t tk σ H Q = t σ H fun vs H1 => tk σ H1 fun zs H2 => vs.length = n ∧ zs.length = m ∧ ∀ x dx, H2 x = none → H2 dx = none → dx ≠ x →
  sp (gV (.ref x :: vs) zs) (upd (upd H2 dx (.own x)) x (.ins C dx [])) (fun v H3 => v = .non ∧ Q (.ref x) H3) E := rfl
theorem e_callN {n m : Nat} {sp : Sp} {gV : List V → List V → List V} {E : XK} {t tk : TA} : tCallN n m sp gV E t tk σ H Q = t σ H fun vs H1 => tk σ H1 fun zs H2 => vs.length = n ∧ zs.length = m ∧ sp (gV vs zs) H2 Q E := rfl
theorem e_meth {C : Addr} {m : Str} {sp : Sp} {dvs : List V} {E : XK} {ta : TE} {t : TA} : tMeth C m sp dvs E ta t σ H Q = ta σ H fun x H1 => ∃ a dx fs, x = .ref a ∧ H1 a = some (.ins C dx fs) ∧ fs.lookup m = none ∧ t σ H1 fun vs H2 => sp (x :: (vs ++ dvs)) H2 Q E := rfl
theorem e_kTup {p : Addr} : kTup K (.ref p) H Q = ((∃ xs, SqL K H p xs ∧ ∀ q, H q = none → Q (.ref q) (upd H q (.tup xs))) ∨ (∃ xs, SqT K H p xs ∧ Q (.ref p) H)) := by
  apply propext
  unfold kTup
  constructor
  · rintro (⟨q, xs, h, r⟩ | ⟨q, xs, h, r⟩)
    · cases h
      exact .inl ⟨xs, r⟩
    · cases h
      exact .inr ⟨xs, r⟩
  · rintro (⟨xs, r⟩ | ⟨xs, r⟩)
    · exact .inl ⟨p, xs, rfl, r⟩
    · exact .inr ⟨p, xs, rfl, r⟩
end
/-- a told tuple -/
theorem dt_told {S : Addr → Prop} {H : Hp} {v : V} {s : Sh} (h : Dt S H v (toldD s)) : ∃ a, v = .ref a ∧ ¬ S a ∧ H a = some (.tup [.int s.limit, .int s.head, .int s.tail, .str s.mark]) := by
  obtain ⟨a, xs, rfl, n, ha, hs⟩ := dt_tup h
  match xs, hs with
  | [_, _, _, _], .cons h1 (.cons h2 (.cons h3 (.cons h4 .nil))) =>
    cases h1
    cases h2
    cases h3
    cases h4
    exact ⟨a, rfl, n, ha⟩
end U

/-! U9: enumerate of a tuple. -/
namespace U
open PySem PySem.Spec PyProof.Rows L2
set_option maxHeartbeats 8000000 in
theorem meets_enum1 {v : Value} {o : Obj} {W : Heap → Prop} (B : Begins v o W) :
    Meets (Builtin.«enumerate.__new__» ⟨[.type "enumerate", v], []⟩) (fun _ R s => W s.heap ∧
      R (.ok (.ret (.ref (s.heap.push o).objs.size))) { s with heap := (s.heap.push o).push { cls := .type "enumerate", data := .fields #[.none, .bool false, .ref s.heap.objs.size, rawInt 0, .none, .none] } }) :=
  .of_wp fun prog w A R s h => by
    obtain ⟨hp, g, d, tk, os⟩ := s
    obtain ⟨h1, h⟩ := h
    have q1 : ∀ {A' : Around} {E : Value → Shared → Prop} {Q : Value → Shared → Prop}, Q (.ref hp.objs.size) ⟨hp.push o, g, d, tk, os⟩ → wpAny (model prog w) A' (pyIter v) Q E ⟨hp, g, d, tk, os⟩ :=
      fun q => B.iter prog w _ _ ⟨hp, g, d, tk, os⟩ _ h1 q
    have hsub := sub_enumerate
    wp_walk using q1
    refine wpAny_stack_any (fun st => wpAny_pure ?_)
    split
    · rename_i c _ _ _ _ _
      cases (c == Value.type "enumerate") <;> (wp_walk using q1; exact ⟨_, rfl, h⟩)
    · wp_walk using q1
      exact ⟨_, rfl, h⟩
def enO (it : Addr) : Obj := { cls := .type "enumerate", data := .fields #[.none, .bool false, .ref it, rawInt 0, .none, .none] }
theorem call_enum1 {prog : Program} {w : World} {A : Around} {E : Value → Shared → Prop} {s : Shared} {v : Value} {o : Obj} {W : Heap → Prop} {Q : Value → Shared → Prop} (B : Begins v o W) (h1 : W s.heap)
    (q : ∀ h', IsEnum h' (s.heap.objs.size + 1) s.heap.objs.size 0 .none → h'.get? s.heap.objs.size = some o → (∀ b u, s.heap.get? b = some u → h'.get? b = some u) → Q (.ref (s.heap.objs.size + 1)) { s with heap := h' }) :
    wpAny (model prog w) A (call (.type "enumerate") [v]) Q E s := by
  refine callType_new F.called_enumerate (by decide) (F.typeCall_enumerate_1 _) (F.newCall_enumerate_1 _) (fun obj => F.args_object_init_2 obj _) F.entry_enumerate_new (meets_enum1 B) ⟨h1, ?_⟩
  have sz : (s.heap.push o).objs.size = s.heap.objs.size + 1 := Heap.size_push ..
  have en : ((s.heap.push o).push (enO s.heap.objs.size)).get? (s.heap.objs.size + 1) = some (enO s.heap.objs.size) := by
    have z := Heap.get?_push_size (s.heap.push o) (o := enO s.heap.objs.size) rfl
    rw [sz] at z
    exact z
  show _ ∧ _
  rw [sz]
  exact ⟨⟨_, en, rfl⟩, q _ en (Heap.get?_push_of_some _ (Heap.get?_push_size _ B.free)) (fun b u e => Heap.get?_push_of_some _ (Heap.get?_push_of_some _ e))⟩

/-- the tuple at a as it stands at each turn, place and item in a new pair -/
def IteT (K : PySem.W.Frag) (a : Addr) : It where
  go i H := ∃ (xs : List V) (x : V), SqT K H a xs ∧ xs[i]? = some x
  yld i H v H' := ∃ T x, v = .ref T ∧ H T = none ∧ H' = upd H T (.tup [.int (i : Nat), x]) ∧ ∀ xs, SqT K H a xs → xs[i]? = some x
  stop i H := ∃ xs : List V, SqT K H a xs ∧ xs.length = i
theorem turn_enumT {P : Program} {w : World} {K : PySem.W.Frag} {elts : List Expr} {kk : Nat} {tpos : Pos} (a e it : Addr) (ha : a ≠ it) (hae : e ≠ a) (hei : e ≠ it) :
    Turn P w K (.Tuple elts kk tpos) (IteT K a) [e, it] e (fun i h => (∃ old, IsEnum h e it ((i : Nat) : Int) old) ∧ h.IsTupleIter it a i) where
  mem := List.mem_cons_self
  obj := fun i h st b hb => by
    obtain ⟨⟨old, he⟩, o, ho, hc, hd⟩ := st
    rcases List.mem_cons.mp hb with z | z
    · exact ⟨_, by rw [z]; exact he, fun v q => by cases q⟩
    · have z' : b = it := List.mem_singleton.mp z
      exact ⟨o, by rw [z']; exact ho, fun v q => by rw [hd] at q; cases q⟩
  keep := fun i h h' st k => by
    obtain ⟨⟨old, he⟩, hi⟩ := st
    exact ⟨⟨old, k e List.mem_cons_self _ he⟩, hi.at fun o q => k it (List.mem_cons_of_mem _ List.mem_cons_self) o q⟩
  item := by
    intro X hP hw hK hc i pins s σ H E I hf st hg
    subst hP hw hK
    obtain ⟨⟨old, he⟩, hit⟩ := st
    obtain ⟨xs, x, hq, hx⟩ := hg
    obtain ⟨its, rv, p, hz⟩ := I.tuple hq
    obtain ⟨u, hu, ru⟩ := rv.get hx
    have tp : s.heap.IsTuple a its.toArray := p
    have lt1 : e < s.heap.objs.size := Heap.lt_size he
    have lt2 : it < s.heap.objs.size := by
      obtain ⟨_, q, _⟩ := hit
      exact Heap.lt_size q
    have hu2 : its.toArray[i]? = some u := by simpa using hu
    have hlt : i < its.toArray.size := by
      rcases Nat.lt_or_ge i its.toArray.size with z | z
      · exact z
      · rw [Array.getElem?_eq_none z] at hu2
        cases hu2
    have D := Draws.tuple (prog := X.prog) (w := X.w) (A := X.A.in1) (I.ok.hd hc) it a ha its.toArray
    refine wpAny_pyNext_enum_itemD D he ⟨hit, tp⟩ hlt hei (by simp [hei, hae]) ?_
    intro x' h' tk hx' ho hst' hT hsz hk
    rw [hu2] at hx'
    cases hx'
    refine ⟨_, rfl, wpAny_letOwnedTupleGo_enum (s := { s with heap := h', toks := tk + 1 }) ho ?_⟩
    intro h'' he' sb
    have ne1 : s.heap.objs.size ≠ e := Nat.ne_of_gt lt1
    have hT2 := (sb.2 _ ne1).trans hT
    have new : ObjOk X.prog X.w (upd H s.heap.objs.size (.tup [.int (i : Nat), x])) h'' s.heap.objs.size (.tup [.int (i : Nat), x]) :=
      ⟨by show 2 ≤ sizeLine; decide, [.int i tk, u], .cons ⟨_, rfl⟩ (.cons ru .nil), ⟨_, hT2, rfl, _, rfl⟩⟩
    have kp : ∀ b ob, b ∉ [e, it] → s.heap.get? b = some ob → h''.get? b = some ob := fun b ob hb q => by
      have b1 : b ≠ e := fun z => hb (by simp [z])
      have b2 : b ≠ it := fun z => hb (by simp [z])
      exact (sb.2 b b1).trans (hk b ob b1 b2 q)
    have I1 : Inv X pins σ (upd H s.heap.objs.size (.tup [.int (i : Nat), x])) { s with heap := h'', toks := tk + 1 } := I.turnedNew (ch := [e, it]) kp hf (Nat.le_refl _) new
    have fr : H s.heap.objs.size = none := I.hok.fresh (Nat.le_refl _)
    refine ⟨.ref s.heap.objs.size, _, I1, rfl, ⟨_, x, rfl, fr, rfl, fun ys hy => by rw [I.tuple_inj hy hq]; exact hx⟩, ⟨⟨u, ?_⟩, hst'.1.at fun o q => (sb.2 it hei.symm).trans q⟩, fun b hb => ?_⟩
    · have e1 : ((i + 1 : Nat) : Int) = (i : Int) + 1 := by omega
      rw [e1]
      exact he'
    · have hb' : b < s.heap.objs.size := by
        rcases List.mem_cons.mp hb with z | z
        · rw [z]
          exact lt1
        · rw [List.mem_singleton.mp z]
          exact lt2
      rw [upd_ne (Nat.ne_of_lt hb')]
      exact (hf b hb).1
  done := by
    intro X hP hw hK hc i pins s σ H E I hf st hg
    subst hP hw hK
    obtain ⟨⟨old, he⟩, hit⟩ := st
    obtain ⟨xs, hq, hx⟩ := hg
    obtain ⟨its, rv, p, hz⟩ := I.tuple hq
    have tp : s.heap.IsTuple a its.toArray := p
    obtain ⟨f0, f1, f2, f3, f4, f5⟩ := hf it (List.mem_cons_of_mem _ List.mem_cons_self)
    have hl := rv.length
    have D := Draws.tuple (prog := X.prog) (w := X.w) (A := X.A.in1) (I.ok.hd hc) it a ha its.toArray
    have ei : its.toArray.size = i := by
      rw [List.size_toArray, ← hl, hx]
    refine wpAny_pyNext_enum_endD D he ⟨by rw [ei]; exact hit, tp⟩ ?_
    intro h' eb
    exact ⟨rfl, I.turned (t' := s.toks) (fun b o hb q => eb b o hb q) f0 f1 f3 f4 f5⟩
  self := fun A i s Q E st h => by
    obtain ⟨⟨_, he⟩, _⟩ := st
    exact wpAny_pyIter_enum he h
def iEnumT (K : PySem.W.Frag) (ta : TA) : TI := fun σ H R => ta σ H fun vs H1 => ∃ a xs, vs = [.ref a] ∧ SqT K H1 a xs ∧ R (IteT K a) H1
theorem pi_enumT {X : Cx} {K : PySem.W.Frag} {e : Expr} {ta : TA} {p pos tpos : Pos} {elts : List Expr} {kk : Nat} (hK : X.K = K) (hg : Gl X "enumerate") (hm : X.mg "enumerate" = none) (ha : PA X [e] ta) (hs : starEach [e] X.env = [(false, eval e X.env)] := by rfl) :
    PI X (.Tuple elts kk tpos) (.Call (.Name "enumerate" p) [e] [] pos) (iEnumT K ta) := by
  subst hK
  refine ⟨fun pins s σ H R I h => Call_ (ld_blt I hg hm boot_enumerate (PyProof.Rows.callWith_type1 (thn (ha.run pos pins s σ H _ I h) ?_) hs rfl))⟩
  rintro us s1 ⟨vs, H1, I1, r1, a, xs, rfl, hq, q⟩
  obtain ⟨u, rfl, ru⟩ := vals1 r1
  cases ru
  obtain ⟨its, rv, p', hz⟩ := I1.tuple hq
  have tp : s1.heap.IsTuple a its.toArray := p'
  have la : a < s1.heap.objs.size := by
    obtain ⟨o, z, _⟩ := tp
    exact Heap.lt_size z
  refine call_enum1 (begins_tuple a its.toArray) tp ?_
  intro h' he hit hk
  refine wpAny_pyIter_enum he ?_
  have I2 : Inv X pins σ H1 { s1 with heap := h' } := I1.kept (t' := s1.toks) hk
  have n1 : a ≠ s1.heap.objs.size := Nat.ne_of_lt la
  have n2 : s1.heap.objs.size + 1 ≠ a := fun z => by rw [← z] at la; exact absurd la (Nat.not_lt.mpr (Nat.le_succ _))
  refine ⟨s1.heap.objs.size + 1, [s1.heap.objs.size + 1, s1.heap.objs.size], _, _, H1, rfl, I2, turn_enumT a (s1.heap.objs.size + 1) s1.heap.objs.size n1 n2 (Nat.succ_ne_self _), ⟨⟨.none, he⟩, ?_⟩, fun b hb => ?_, q⟩
  · exact ⟨_, hit, rfl, rfl⟩
  · have hle : s1.heap.objs.size ≤ b := by
      rcases List.mem_cons.mp hb with z | z
      · rw [z]
        exact Nat.le_succ _
      · rw [List.mem_singleton.mp z]
        exact Nat.le_refl _
    exact I1.fpOk hle (I1.hok.fresh hle)
theorem src_enumT {K : PySem.W.Frag} {S : Addr → Prop} {H0 : Hp} {a : Addr} {xs : List V} (h : H0 a = some (.tup xs)) (n : ¬ S a) :
    Src S (IteT K a) H0 xs.length (fun i x H' H2 => ∃ T y, x = .ref T ∧ H' T = none ∧ H2 = upd H' T (.tup [.int (i : Nat), y]) ∧ xs[i]? = some y) := by
  refine ⟨fun H' e => ⟨xs, SqT.of (e _ _ n h), rfl⟩, fun i H' hi e => ⟨xs, xs[i], SqT.of (e _ _ n h), by simp [hi]⟩, fun i H' x H2 hi e y => ?_⟩
  obtain ⟨T, y, h1, h2, h3, h4⟩ := y
  exact ⟨T, y, h1, h2, h3, h4 xs (SqT.of (e _ _ n h))⟩
def rForE (K : PySem.W.Frag) (g : TG) (tb : TS) (D0 : Ends) (σ : L2.St) (vs : List V) (H1 : Hp) : Prop := ∃ a xs, vs = [.ref a] ∧ SqT K H1 a xs ∧ ForOn (IteT K a) g tb D0 σ H1
section
variable {K : PySem.W.Frag} {S : Addr → Prop} {H H1 : Hp} {a : Addr} {xs : List V} {g : TG} {tb : TS} {σ : L2.St} {D0 : Ends} {ta : TA}
theorem e_forE : tFor (iEnumT K ta) g tb D0 σ H = ta σ H fun x H1 => rForE K g tb D0 σ x H1 := rfl
theorem forE (h : H1 a = some (.tup xs)) (hS : ¬ S a) (I : Nat → L2.St → Hp → Prop) (i0 : I 0 σ H1) (stay : ∀ i σ' H', I i σ' H' → Ext S H1 H')
    (step : ∀ i y σ' H' T, xs[i]? = some y → I i σ' H' → H' T = none → g (.ref T) σ' (upd H' T (.tup [.int (i : Nat), y])) fun σ2 H3 => tb { D0 with nx := I (i + 1), ct := I (i + 1), bk := D0.nx } σ2 H3) (fin : ∀ σ' H', I xs.length σ' H' → D0.nx σ' H') : rForE K g tb D0 σ [.ref a] H1 := by
  refine ⟨a, xs, rfl, SqT.of h, for_core (src_enumT h hS) I i0 stay ?_ fin⟩
  rintro i σ' H' hi hI x H2 ⟨T, y, rfl, hT, rfl, hy⟩
  exact step i y σ' H' T hy hI hT
end
end U
namespace U
open PySem PySem.Spec PyProof.Rows L2
theorem cutV_to (xs : List V) (n : Nat) : cutV xs none (some (n : Int)) = xs.take n := by
  unfold cutV
  rw [HT.sIx_none, HT.sIx_nat, List.drop_zero, Nat.sub_zero]
  by_cases h : n ≤ xs.length
  · rw [Nat.min_eq_left h]
  · rw [Nat.min_eq_right (by omega), List.take_of_length_le (by omega), List.take_of_length_le (by omega)]
theorem cutV_from (xs : List V) (n : Nat) : cutV xs (some (n : Int)) none = xs.drop n := by
  unfold cutV
  rw [HT.sIx_none, HT.sIx_nat]
  by_cases h : n ≤ xs.length
  · rw [Nat.min_eq_left h]
    exact List.take_of_length_le (by rw [List.length_drop]; omega)
  · rw [Nat.min_eq_right (by omega), Nat.sub_self, List.take_zero, List.drop_eq_nil_of_le (by omega)]
theorem cutV_back (xs : List V) (n : Nat) (h0 : 0 < n) : cutV xs (some (-(n : Int))) none = xs.drop (xs.length - n) := by
  unfold cutV
  have e : HT.sIx xs.length 0 (some (-(n : Int))) = xs.length - n := by
    show (if -(n : Int) < 0 then (-(n : Int) + (xs.length : Int)).toNat else _) = _
    rw [if_pos (by omega)]
    omega
  rw [HT.sIx_none, e]
  exact List.take_of_length_le (by rw [List.length_drop]; omega)
theorem cutS_to (z : Str) (n : Nat) : cutS z none (some (n : Int)) = ofL ((cd z).take n) := by
  have hl := cd_len z
  unfold cutS
  rw [HT.sIx_none, HT.sIx_nat, List.drop_zero, Nat.sub_zero]
  show ofL ((cd z).take _) = _
  by_cases h : n ≤ z.length
  · rw [Nat.min_eq_left h]
  · rw [Nat.min_eq_right (by omega), List.take_of_length_le (by omega), List.take_of_length_le (by omega)]
theorem cutS_from (z : Str) (n : Nat) : cutS z (some (n : Int)) none = ofL ((cd z).drop n) := by
  have hl := cd_len z
  unfold cutS
  rw [HT.sIx_none, HT.sIx_nat]
  show ofL (((cd z).drop _).take _) = _
  by_cases h : n ≤ z.length
  · rw [Nat.min_eq_left h, List.take_of_length_le (by rw [List.length_drop]; omega)]
  · rw [Nat.min_eq_right (by omega), Nat.sub_self, List.take_zero, List.drop_eq_nil_of_le (by omega)]
/-- a new list, a new tuple -/
theorem Dt.newL {H : Hp} {p : Addr} {xs : List V} {ds : List D} (hp : H p = none) (h : DtA N0 H xs ds) : Dt N0 (upd H p (.lst xs)) (.ref p) (.lst ds) := .lst (fun z => z) upd_same (h.sm (Same.new hp))
theorem Dt.newT {H : Hp} {p : Addr} {xs : List V} {ds : List D} (hp : H p = none) (h : DtA N0 H xs ds) : Dt N0 (upd H p (.tup xs)) (.ref p) (.tup ds) := .tup (fun z => z) upd_same (h.sm (Same.new hp))
end U
namespace U
theorem sum_ones {α : Type} (l : List α) : (l.map fun _ => 1).sum = l.length := by
  induction l with
  | nil => rfl
  | cons a r ih =>
    rw [List.map_cons, List.sum_cons, ih, List.length_cons]
    omega
end U

/-! U10: small helpers about reading indices, comparing data, texts of the program's signs. -/
namespace U
open PySem PySem.Spec PyProof.Rows L2
theorem sql_sm {K : PySem.W.Frag} {H H' : Hp} {a : Addr} {xs : List V} (h : SqL K H a xs) (e : Same H H') : SqL K H' a xs :=
  h.elim (fun h => .inl (h.elim (fun h => .inl (e _ _ h)) fun ⟨o, h⟩ => .inr ⟨o, e _ _ h⟩)) fun h => .inr h
theorem at_int {xs : List V} {i : Int} {v : V} (h0 : 0 ≤ i) (g : xs[i.toNat]? = some v) : atI xs i = some v := by
  obtain ⟨n, rfl⟩ := Int.eq_ofNat_of_zero_le h0
  exact atI_nat g
theorem ixL {K : PySem.W.Frag} {H : Hp} {a : Addr} {xs : List V} {i : Int} {v : V} {Q : VK} (h : H a = some (.lst xs)) (g : xs[i.toNat]? = some v) (q : Q v H) (h0 : 0 ≤ i := by decide) : rIxU K (.ref a) (.int i) H Q := ⟨xs, v, .inl (SqL.of h), at_int h0 g, q⟩
theorem ixT {K : PySem.W.Frag} {H : Hp} {a : Addr} {xs : List V} {i : Int} {v : V} {Q : VK} (h : H a = some (.tup xs)) (g : xs[i.toNat]? = some v) (q : Q v H) (h0 : 0 ≤ i := by decide) : rIxU K (.ref a) (.int i) H Q := ⟨xs, v, .inr (SqT.of h), at_int h0 g, q⟩
theorem adI {H : Hp} {i j : Int} {Q : VK} (q : Q (.int (i + j)) H) : rAddU (.int i) (.int j) H Q := q
theorem strOk_of {n : Nat} {z : Str} (h : okText n z = true) : PySem.PyData.strOk z = true := by
  have h2 := (okText_iff.mp h).2
  have h3 : ∀ c ∈ U.signs, c < 0x110000 := by decide +kernel
  unfold PySem.PyData.strOk
  rw [Array.all_eq_true_iff_forall_mem]
  intro c hc
  exact decide_eq_true (h3 c (h2 c (by unfold cd; exact Array.mem_toList_iff.mpr hc)))
theorem ne_same {K : PySem.W.Frag} {H : Hp} {p q : Addr} {d : D} {e : PyData} {Q : VK} (h1 : Dt N0 H (.ref p) d) (h2 : Dt N0 H (.ref q) d) (hd : D.py d = some e) (hs : SeqAt.shaped e = true) (k : Q (.bl false) H) : rNeU K (.ref p) (.ref q) H Q := by
  refine ⟨e, e, Dt.dp d h1 hd, Dt.dp d h2 hd, hs, hs, ?_⟩
  have hc : e.canLay0 = true := (Bool.and_eq_true_iff.mp hs).1
  rw [SeqAt.eqv_refl e hc]
  exact k
end U

/-! U11: plain facts about lengths: how many signs a row leaves of n. -/
namespace U
open PySem PySem.Spec PyProof.Rows L2
theorem e_lstRg {ta : TE} {σ : L2.St} {H : Hp} {Q : VK} : tLstRg (tRg1 ta) σ H Q = ta σ H fun x H1 => ∃ n, x = .int n ∧ RgOk 0 n ∧ ∀ q, H1 q = none → Q (.ref q) (upd H1 q (.lst (rgV 0 n))) := rfl
def lenP (s : Sh) (n : Nat) : Nat := if n ≤ s.limit then n else min s.head n + s.mark.length + min s.tail n
def lenR (row : List Sh) (n : Nat) : Nat := row.foldl (fun m s => lenP s m) n
theorem cutP_length {α : Type} (f : Nat → α) (s : Sh) (xs : List α) : (cutP f s xs).length = lenP s xs.length := by
  unfold cutP lenP
  split
  · rfl
  · rw [List.length_append, List.length_append, List.length_map, cd_len, List.length_take, List.length_drop]
    omega
theorem cutR_length {α : Type} (f : Nat → α) : ∀ (row : List Sh) (xs : List α), (cutR f row xs).length = lenR row xs.length
  | [], _ => rfl
  | s :: row, xs => by
    rw [cutR_cons, cutR_length f row, cutP_length]
    rfl
theorem lenP_big {s : Sh} (h : s.ok) {n : Nat} (hn : 41 ≤ n) : lenP s n = lenP s 41 := by
  obtain ⟨h1, h2, h3, _⟩ := h
  unfold lenP
  rw [if_neg (by omega), if_neg (by omega)]
  omega
theorem lenR_big {row : List Sh} (hr : ∀ s ∈ row, s.ok) (h1 : 1 ≤ row.length) {n : Nat} (hn : 41 ≤ n) : lenR row n = lenR row 41 := by
  cases row with
  | nil => simp at h1
  | cons s row =>
    show lenR row (lenP s n) = lenR row (lenP s 41)
    rw [lenP_big (hr s List.mem_cons_self) hn]
theorem lenR_le {row : List Sh} (hr : ∀ s ∈ row, s.ok) (h1 : 1 ≤ row.length) (n : Nat) : lenR row n ≤ 83 := by
  have := cutR_length id row (List.replicate n 0)
  rw [List.length_replicate] at this
  by_cases c : 41 ≤ n
  · have e := lenR_big hr h1 c
    have z := cutR_length id row (List.replicate 41 0)
    rw [List.length_replicate] at z
    have := cutR_le id hr (List.replicate 41 0) (n := 83) (by rw [List.length_replicate]; decide) (by decide)
    omega
  · have := cutR_le id hr (List.replicate n 0) (n := 83) (by rw [List.length_replicate]; omega) (by decide)
    omega
/-- m is the greatest number of signs that the row shows -/
def isW (row : List Sh) (m : Nat) : Prop := (∃ n, n ≤ 41 ∧ lenR row n = m) ∧ ∀ n, lenR row n ≤ m
theorem isW_one {row : List Sh} {m k : Nat} (a : isW row m) (b : isW row k) : m = k := by
  obtain ⟨⟨i, _, hi⟩, h1⟩ := a
  obtain ⟨⟨j, _, hj⟩, h2⟩ := b
  have := h1 j
  have := h2 i
  omega
theorem isW_of {row : List Sh} (hr : ∀ s ∈ row, s.ok) (h1 : 1 ≤ row.length) {N : Nat} (hN : 42 ≤ N) {m : Int} (hm : m ∈ (List.range N).map fun n => (lenR row n : Int)) (hmax : ∀ y ∈ (List.range N).map fun n => (lenR row n : Int), y ≤ m) :
    ∃ k : Nat, m = k ∧ isW row k := by
  obtain ⟨n, hn, rfl⟩ := List.mem_map.mp hm
  refine ⟨lenR row n, rfl, ?_, fun i => ?_⟩
  · by_cases c : n ≤ 41
    · exact ⟨n, c, rfl⟩
    · exact ⟨41, Nat.le_refl _, (lenR_big hr h1 (by omega)).symm⟩
  · by_cases c : i ≤ 41
    · have := hmax _ (List.mem_map.mpr ⟨i, List.mem_range.mpr (by omega), rfl⟩)
      omega
    · have := hmax _ (List.mem_map.mpr ⟨41, List.mem_range.mpr (by omega), rfl⟩)
      rw [lenR_big hr h1 (show 41 ≤ i by omega)]
      omega
/-- the places 0 .. n - 1 -/
def pl (i : Nat) : D := .int (i : Nat)
def nums (n : Nat) : List D := (List.range n).map pl
theorem nums_length (n : Nat) : (nums n).length = n := by unfold nums; rw [List.length_map, List.length_range]
theorem nums_snoc (n : Nat) : nums (n + 1) = nums n ++ [pl n] := by
  unfold nums
  rw [List.range_succ, List.map_append]
  rfl
theorem dt_ints {S : Addr → Prop} {H : Hp} : ∀ l : List Nat, DtA S H (l.map fun i => V.int (0 + (i : Nat))) (l.map pl)
  | [] => .nil
  | c :: l => .cons (by show Dt S H (V.int (0 + (c : Int))) (.int (c : Int)); rw [Int.zero_add]; exact .int _) (dt_ints l)
theorem dt_rg {S : Addr → Prop} {H : Hp} (n : Nat) : DtA S H (rgV 0 n) (nums n) := by
  unfold rgV nums
  rw [show ((n : Int) - 0).toNat = n by omega]
  exact dt_ints _
theorem nums_flat (n : Nat) : ∀ d ∈ nums n, D.flat d = true := by
  intro d h
  obtain ⟨i, _, rfl⟩ := List.mem_map.mp h
  rfl
/-- a part of a plan: a place or a sign -/
def isPl (n : Nat) (d : D) : Prop := (∃ i : Nat, i < n ∧ d = pl i) ∨ ∃ c, c ∈ signs ∧ d = sgn c
theorem plan_pl {row : List Sh} (hr : ∀ s ∈ row, s.ok) (n : Nat) : ∀ d ∈ cutR sgn row (nums n), isPl n d := by
  refine cutR_all (P := isPl n) (fun s hs c hc => .inr ⟨c, (okText_iff.mp (hr s hs).2.2.2).2 c hc, rfl⟩) fun x hx => ?_
  obtain ⟨i, hi, rfl⟩ := List.mem_map.mp hx
  exact .inl ⟨i, List.mem_range.mp hi, rfl⟩
end U

/-! U12: data small enough to be compared and shown. -/
namespace U
open PySem PySem.Spec PyProof.Rows L2
structure PyOk (W k : Nat) (p : PyData) : Prop where
  lay : p.canLay0 = true
  itx : PyData.intsShort 13 p = true
  sh : PyData.showable p = true
  nd : PyData.hasDict p = false
  dep : PyData.depth p ≤ k
  wt : PyData.weight p ≤ W
structure PysOk (W k : Nat) (ps : List PyData) : Prop where
  lay : PyData.canLayAll0 ps = true
  itx : PyData.intsShortAll 13 ps = true
  sh : PyData.showableAll ps = true
  nd : PyData.hasDictAll ps = false
  dep : PyData.depthAll ps ≤ k
  wt : PyData.weightAll ps ≤ W
theorem PysOk.nil (W k : Nat) : PysOk W k [] := ⟨rfl, rfl, rfl, rfl, Nat.zero_le _, Nat.zero_le _⟩
theorem PysOk.cons {W W' k : Nat} {p : PyData} {ps : List PyData} (a : PyOk W k p) (b : PysOk W' k ps) : PysOk (W + 1 + W') k (p :: ps) := by
  obtain ⟨a1, a2, a3, a4, a5, a6⟩ := a
  obtain ⟨b1, b2, b3, b4, b5, b6⟩ := b
  refine ⟨?_, ?_, ?_, ?_, ?_, ?_⟩
  · rw [PyData.canLayAll0, a1, b1]; rfl
  · rw [PyData.intsShortAll, a2, b2]; rfl
  · rw [PyData.showableAll, a3, b3]; rfl
  · rw [PyData.hasDictAll, a4, b4]; rfl
  · rw [PyData.depthAll]; omega
  · rw [PyData.weightAll]; omega
theorem PyOk.mono {W W' k k' : Nat} {p : PyData} (a : PyOk W k p) (h : W ≤ W') (h2 : k ≤ k') : PyOk W' k' p := ⟨a.lay, a.itx, a.sh, a.nd, Nat.le_trans a.dep h2, Nat.le_trans a.wt h⟩
theorem PysOk.mono {W W' k k' : Nat} {p : List PyData} (a : PysOk W k p) (h : W ≤ W') (h2 : k ≤ k') : PysOk W' k' p := ⟨a.lay, a.itx, a.sh, a.nd, Nat.le_trans a.dep h2, Nat.le_trans a.wt h⟩
theorem PysOk.list {W k : Nat} {ps : List PyData} (a : PysOk W k ps) : PyOk W (k + 1) (.list ps) :=
  ⟨by rw [PyData.canLay0]; exact a.lay, by rw [PyData.intsShort]; exact a.itx, by rw [PyData.showable]; exact a.sh, by rw [PyData.hasDict]; exact a.nd, by rw [PyData.depth]; have := a.dep; omega, by rw [PyData.weight]; exact a.wt⟩
theorem PysOk.tuple {W k : Nat} {ps : List PyData} (a : PysOk W k ps) : PyOk W (k + 1) (.tuple ps) :=
  ⟨by rw [PyData.canLay0]; exact a.lay, by rw [PyData.intsShort]; exact a.itx, by rw [PyData.showable]; exact a.sh, by rw [PyData.hasDict]; exact a.nd, by rw [PyData.depth]; have := a.dep; omega, by rw [PyData.weight]; exact a.wt⟩
theorem PyOk.int {i : Int} (h : i.natAbs < 10 ^ 12) : PyOk 40 0 (.int i) := by
  refine ⟨rfl, ?_, ?_, rfl, by rw [PyData.depth]; exact Nat.le_refl _, ?_⟩
  · rw [PyData.intsShort]
    exact decide_eq_true (PyData.shown_int_le h)
  · rw [PyData.showable]
    refine decide_eq_true ?_
    have : i.natAbs.log2 ≤ 40 := by
      by_cases z : i.natAbs = 0
      · rw [z]; decide
      · exact Nat.le_of_lt_succ ((Nat.log2_lt z).mpr (Nat.lt_of_lt_of_le h (by decide)))
    omega
  · rw [PyData.weight]
    split
    · omega
    · have : i.natAbs.log2 < 40 := by
        by_cases z : i.natAbs = 0
        · rw [z]; decide
        · exact (Nat.log2_lt z).mpr (Nat.lt_of_lt_of_le h (by decide))
      omega
theorem PyOk.bl (b : Bool) : PyOk 0 0 (.bool b) := ⟨rfl, rfl, rfl, rfl, by rw [PyData.depth]; exact Nat.le_refl _, by rw [PyData.weight]; exact Nat.le_refl _⟩
theorem PyOk.non : PyOk 0 0 .none := ⟨rfl, rfl, rfl, rfl, by rw [PyData.depth]; exact Nat.le_refl _, by rw [PyData.weight]; exact Nat.le_refl _⟩
theorem PyOk.str {z : Str} {n : Nat} (h : PyData.strOk z = true) (hn : z.length ≤ n) : PyOk n 0 (.str z) :=
  ⟨by rw [PyData.canLay0]; exact h, rfl, rfl, rfl, by rw [PyData.depth]; exact Nat.le_refl _, by rw [PyData.weight]; exact hn⟩
theorem PyOk.text {z : Str} {n : Nat} (h : okText n z = true) : PyOk n 0 (.str z) := .str (strOk_of h) (okText_iff.mp h).1
theorem PyOk.shaped {W k : Nat} {p : PyData} (h : PyOk W k p) (hk : k ≤ 64) : SeqAt.shaped p = true := by
  unfold SeqAt.shaped
  rw [Bool.and_eq_true]
  exact ⟨h.lay, decide_eq_true (Nat.le_trans h.dep hk)⟩
theorem PyOk.fits {W k : Nat} {p : PyData} (h : PyOk W k p) (hW : W ≤ 1048576) : (PyData.shown p).length ≤ sizeLine :=
  PyData.shown_fits (B := 13) (by decide) (by decide) (PyData.leavesShort_of_canLay0 13 p h.lay h.itx) (Nat.le_trans h.wt hW)
/-- a datum that can be compared and shown -/
def okP (W k : Nat) (d : D) : Prop := ∃ p, D.py d = some p ∧ PyOk W k p
def okPs (W k : Nat) (ds : List D) : Prop := ∃ ps, D.pys ds = some ps ∧ PysOk W k ps
theorem okPs.nil (W k : Nat) : okPs W k [] := ⟨[], by rw [D.pys], .nil _ _⟩
theorem okPs.cons {W W' k : Nat} {d : D} {ds : List D} : okP W k d → okPs W' k ds → okPs (W + 1 + W') k (d :: ds) := fun ⟨p, e, a⟩ ⟨ps, e2, b⟩ => ⟨p :: ps, by rw [D.pys, e, e2], .cons a b⟩
theorem okPs.all {W k : Nat} : ∀ {ds : List D}, (∀ d ∈ ds, okP W k d) → okPs (ds.length * (W + 1)) k ds
  | [], _ => okPs.nil _ _
  | d :: ds, h => by
    obtain ⟨ps, e, a⟩ := okPs.cons (h d List.mem_cons_self) (okPs.all fun x hx => h x (List.mem_cons_of_mem _ hx))
    refine ⟨ps, e, a.mono ?_ (Nat.le_refl _)⟩
    rw [List.length_cons, Nat.succ_mul]
    omega
theorem okPs.list {W k : Nat} {ds : List D} : okPs W k ds → okP W (k + 1) (.lst ds) := fun ⟨ps, e, a⟩ => ⟨.list ps, by rw [D.py, e]; rfl, a.list⟩
theorem okPs.tuple {W k : Nat} {ds : List D} : okPs W k ds → okP W (k + 1) (.tup ds) := fun ⟨ps, e, a⟩ => ⟨.tuple ps, by rw [D.py, e]; rfl, a.tuple⟩
theorem okP.mono {W W' k k' : Nat} {d : D} : okP W k d → W ≤ W' → k ≤ k' → okP W' k' d := fun ⟨p, e, a⟩ h h2 => ⟨p, e, a.mono h h2⟩
theorem okP.int {i : Int} (h : i.natAbs < 10 ^ 12) : okP 40 0 (.int i) := ⟨_, by rw [D.py], .int h⟩
theorem okP.text {z : Str} {n : Nat} (h : okText n z = true) : okP n 0 (.str z) := ⟨_, by rw [D.py], .text h⟩
theorem okP.sgn {c : Nat} (h : c ∈ signs) : okP 1 0 (sgn c) := by
  refine okP.text (n := 1) (z := one c) (okText_iff.mpr ⟨Nat.le_refl 1, fun x hx => ?_⟩)
  have e : x ∈ [c] := hx
  rw [List.mem_singleton.mp e]
  exact h
theorem okP.pl {i : Nat} (h : i < 10 ^ 12) : okP 40 0 (U.pl i) := okP.int (by omega)
theorem isPl.okP {n : Nat} {d : D} (h : isPl n d) (hn : n ≤ 10 ^ 12) : okP 40 0 d := by
  rcases h with ⟨i, hi, rfl⟩ | ⟨c, hc, rfl⟩
  · exact okP.pl (by omega)
  · exact (okP.sgn hc).mono (by decide) (Nat.le_refl _)
/-- == and != of two objects that stand for the same datum -/
theorem ne_sameP {K : PySem.W.Frag} {H : Hp} {p q : Addr} {d : D} {W k : Nat} {Q : VK} (h1 : Dt N0 H (.ref p) d) (h2 : Dt N0 H (.ref q) d) (hd : okP W k d) (hk : k ≤ 64) (c : Q (.bl false) H) : rNeU K (.ref p) (.ref q) H Q := by
  obtain ⟨e, he, ho⟩ := hd
  exact ne_same h1 h2 he (ho.shaped hk) c
theorem eq_sameP {K : PySem.W.Frag} {H : Hp} {p q : Addr} {d : D} {W k : Nat} {Q : VK} (h1 : Dt N0 H (.ref p) d) (h2 : Dt N0 H (.ref q) d) (hd : okP W k d) (hk : k ≤ 64) (c : Q (.bl true) H) : rEqU K (.ref p) (.ref q) H Q := by
  obtain ⟨e, he, ho⟩ := hd
  have hs := ho.shaped hk
  refine ⟨e, e, Dt.dp d h1 he, Dt.dp d h2 he, hs, hs, ?_⟩
  rw [SeqAt.eqv_refl e ho.lay]
  exact c
theorem ne_strs {K : PySem.W.Frag} {H : Hp} {x : Str} {Q : VK} (c : Q (.bl false) H) : rNeU K (.str x) (.str x) H Q :=
  ⟨rfl, by rw [decide_eq_true rfl]; exact c⟩
theorem ne_ints {K : PySem.W.Frag} {H : Hp} {x : Int} {Q : VK} (c : Q (.bl false) H) : rNeU K (.int x) (.int x) H Q :=
  ⟨rfl, by rw [decide_eq_true rfl]; exact c⟩
/-- a plan filled with a text's signs -/
def fillD (l : List Nat) : D → D
  | .int i => sgn (l.getD i.toNat 0)
  | d => d
theorem fill_nums (l : List Nat) : (nums l.length).map (fillD l) = l.map sgn := by
  unfold nums
  rw [List.map_map]
  refine List.ext_getElem? fun i => ?_
  rw [List.getElem?_map, List.getElem?_map]
  by_cases h : i < l.length
  · rw [List.getElem?_range h, List.getElem?_eq_getElem h]
    show some (sgn (l.getD ((i : Int).toNat) 0)) = some (sgn l[i])
    rw [Int.toNat_natCast, List.getD_eq_getElem?_getD, List.getElem?_eq_getElem h]
    rfl
  · rw [List.getElem?_eq_none (by rw [List.length_range]; omega), List.getElem?_eq_none (by omega)]
    rfl
theorem fill_plan (row : List Sh) (l : List Nat) : (cutR sgn row (nums l.length)).map (fillD l) = (showC row l).map sgn := by
  rw [← cutR_sgn, ← fill_nums, ← cutR_map sgn (fillD l)]
  rfl
/-- repr of such a datum -/
theorem repr_of {K : PySem.W.Frag} {H : Hp} {v : V} {d : D} {W k : Nat} {Q : VK} (h1 : Dt N0 H v d) (hd : okP W k d) (hk : k ≤ 40) (hW : W ≤ 1048576) (c : ∀ p, D.py d = some p → Q (.str (PyData.shown p)) H) : rRepr K [v] H Q := by
  obtain ⟨p, e, ho⟩ := hd
  exact ⟨v, p, rfl, Dt.dp d h1 e, ho.sh, ho.nd, Nat.le_trans ho.dep hk, ho.fits hW, c p e⟩
end U

/-! U13: texts times a number; names by rule and width, in plain Lean. -/
namespace U
open PySem PySem.Spec PyProof.Rows L2
section
variable {X : Cx}
def rMulS : R2 := fun x y H Q => ∃ z n, x = .str z ∧ y = .int n ∧ z.length ≤ 2000 ∧ 0 ≤ n ∧ n ≤ 8000 ∧ Q (.str (Txt.mul z n)) H
theorem op_mulS : OpR X (binaryOp .Mult) rMulS := by
  intro pins s σ H x y v u Q I rx ry h
  obtain ⟨z, n, rfl, rfl, hz, h0, h1, q⟩ := h
  obtain ⟨t, rfl⟩ := rx
  obtain ⟨t', rfl⟩ := ry
  exact PySem.SB.mul (mulOk_of 2000 8000 hz (by omega) (by omega) (by decide) (by decide)) fun t2 k => ⟨.str _, H, I.tok _, ⟨_, rfl⟩, q⟩
end

/-! ### names -/
def tkS (n : Nat) (z : Str) : Str := ofL ((cd z).take n)
theorem tkS_len (n : Nat) (z : Str) : (tkS n z).length = min n z.length := by
  unfold tkS
  rw [← cd_len, cd_ofL, List.length_take, cd_len]
theorem tkS_ok {n m : Nat} {z : Str} (h : okText m z = true) : okText (min n m) (tkS n z) = true := by
  obtain ⟨h1, h2⟩ := okText_iff.mp h
  refine okText_iff.mpr ⟨by rw [tkS_len]; omega, fun c hc => h2 c ?_⟩
  unfold tkS at hc
  rw [cd_ofL] at hc
  exact List.mem_of_mem_take hc
theorem ok_mono {n m : Nat} {z : Str} (h : okText n z = true) (hm : n ≤ m) : okText m z = true := okText_iff.mpr ⟨Nat.le_trans (okText_iff.mp h).1 hm, (okText_iff.mp h).2⟩
theorem cd_append (a b : Str) : cd (a ++ b) = cd a ++ cd b := by
  show (a.cps ++ b.cps).toList = _
  rw [Array.toList_append]
  rfl
theorem len_append (a b : Str) : (a ++ b).length = a.length + b.length := by
  rw [← cd_len, cd_append, List.length_append, cd_len, cd_len]
theorem ok_append {n m : Nat} {a b : Str} (h : okText n a = true) (k : okText m b = true) : okText (n + m) (a ++ b) = true := by
  obtain ⟨h1, h2⟩ := okText_iff.mp h
  obtain ⟨k1, k2⟩ := okText_iff.mp k
  refine okText_iff.mpr ⟨by rw [len_append]; omega, fun c hc => ?_⟩
  rw [cd_append] at hc
  rcases List.mem_append.mp hc with z | z
  · exact h2 c z
  · exact k2 c z
theorem empty_append (a : Str) : Str.empty ++ a = a := by
  show (⟨#[] ++ a.cps⟩ : Str) = a
  rw [Array.empty_append]
def til (n : Nat) : Str := Str.ofString "~" ++ Str.ofString (toString (n : Int))
theorem til_ok : ∀ n, n ≤ 9 → okText 2 (til n) = true := by
  intro n h
  have : ∀ n, n < 10 → okText 2 (til n) = true := by decide +kernel
  exact this n (by omega)
theorem til_len : ∀ n, n ≤ 9 → (til n).length = 2 := by
  intro n h
  have : ∀ n, n < 10 → (til n).length = 2 := by decide +kernel
  exact this n (by omega)
theorem til_one : ∀ n m, n ≤ 9 → m ≤ 9 → til n = til m → n = m := by
  intro n m h k
  have : ∀ n, n < 10 → ∀ m, m < 10 → til n = til m → n = m := by decide +kernel
  exact this n (by omega) m (by omega)
inductive Ru where
  | count | free | tight
def Ru.str : Ru → Str
  | .count => "count"
  | .free => "free"
  | .tight => "tight"
def numS (r : Ru) (w : Nat) (b : Str) (n : Nat) : Str := (match r with | .tight => tkS (w - 2) b | _ => b) ++ til n
theorem append_inj {a b c : Str} (h : a ++ b = a ++ c) : b = c := by
  have e : cd a ++ cd b = cd a ++ cd c := by rw [← cd_append, ← cd_append, h]
  have e2 := List.append_cancel_left e
  have e3 : b.cps = c.cps := Array.toList_inj.mp e2
  cases b
  cases c
  exact congrArg Str.mk e3
theorem numS_one {r : Ru} {w : Nat} {b : Str} {n m : Nat} (hn : n ≤ 9) (hm : m ≤ 9) (h : numS r w b n = numS r w b m) : n = m := til_one n m hn hm (append_inj h)
theorem numS_ok {r : Ru} {w m n : Nat} {b : Str} (h : okText m b = true) (hn : n ≤ 9) : okText (m + 2) (numS r w b n) = true := by
  unfold numS
  refine ok_append ?_ (til_ok n hn)
  cases r with
  | tight => exact ok_mono (tkS_ok h) (Nat.min_le_right _ _)
  | count => exact h
  | free => exact h
/-- the least number that is not taken -/
def nextN (tk : List Str) (f : Nat → Str) : Nat → Nat → Nat
  | 0, n => n
  | k + 1, n => if f n ∈ tk then nextN tk f k (n + 1) else n
theorem nodup_le {α : Type} [DecidableEq α] : ∀ {xs ys : List α}, xs.Nodup → (∀ x ∈ xs, x ∈ ys) → xs.length ≤ ys.length
  | [], _, _, _ => Nat.zero_le _
  | x :: xs, ys, h, k => by
    have hx : x ∈ ys := k x List.mem_cons_self
    have h2 := List.nodup_cons.mp h
    have := nodup_le (xs := xs) (ys := ys.erase x) h2.2 fun z hz => (List.mem_erase_of_ne (show z ≠ x by intro e; subst e; exact h2.1 hz)).mpr (k z (List.mem_cons_of_mem _ hz))
    rw [List.length_erase_of_mem hx] at this
    have : 0 < ys.length := List.length_pos_of_mem hx
    rw [List.length_cons]
    omega
theorem pig {tk : List Str} {f : Nat → Str} (hf : ∀ i j, i ≤ tk.length + 2 → j ≤ tk.length + 2 → f i = f j → i = j) (h : ∀ j, 2 ≤ j → j ≤ tk.length + 2 → f j ∈ tk) : False := by
  have nd : ((List.range (tk.length + 1)).map fun i => f (i + 2)).Nodup := by
    unfold List.Nodup
    rw [List.pairwise_map]
    refine List.Pairwise.imp_of_mem ?_ (List.nodup_range (n := tk.length + 1))
    intro a b ha hb hab e
    have ha := List.mem_range.mp ha
    have hb := List.mem_range.mp hb
    have := hf _ _ (by omega) (by omega) e
    omega
  have := nodup_le nd fun x hx => by
    obtain ⟨i, hi, rfl⟩ := List.mem_map.mp hx
    have hi := List.mem_range.mp hi
    exact h _ (by omega) (by omega)
  rw [List.length_map, List.length_range] at this
  omega
/-- nextN is the number at which a search stops -/
theorem nextN_eq {tk : List Str} {f : Nat → Str} {m : Nat} (hm : f m ∉ tk) : ∀ (k n : Nat), n ≤ m → m ≤ n + k → (∀ j, n ≤ j → j < m → f j ∈ tk) → nextN tk f k n = m
  | 0, n, h1, h2, _ => by unfold nextN; omega
  | k + 1, n, h1, h2, h => by
    unfold nextN
    by_cases c : n = m
    · subst c
      rw [if_neg hm]
    · rw [if_pos (h n (Nat.le_refl _) (by omega))]
      exact nextN_eq hm k (n + 1) (by omega) (by omega) fun j a b => h j (by omega) b
def nameF (r : Ru) (w : Nat) (t : Str) (th : List (Str × Str)) : Str :=
  match r with
  | .count => if (th.filter fun p => decide (tkS w p.1 = tkS w t)).length = 0 then tkS w t else tkS w t ++ til ((th.filter fun p => decide (tkS w p.1 = tkS w t)).length + 1)
  | r => if tkS w t ∈ th.map (·.2) then numS r w (tkS w t) (nextN (th.map (·.2)) (numS r w (tkS w t)) th.length 2) else tkS w t
theorem nextN_le (tk : List Str) (f : Nat → Str) : ∀ k n, nextN tk f k n ≤ n + k
  | 0, n => by unfold nextN; omega
  | k + 1, n => by
    unfold nextN
    split
    · have := nextN_le tk f k (n + 1); omega
    · omega
theorem nameF_ok {r : Ru} {w : Nat} {t : Str} {th : List (Str × Str)} (hw : w ≤ 40) (ht : okText 200 t = true) (hl : th.length ≤ 7) : okText 42 (nameF r w t th) = true := by
  have b : okText 40 (tkS w t) = true := ok_mono (tkS_ok ht) (by omega)
  have hf := List.length_filter_le (fun p : Str × Str => decide (tkS w p.1 = tkS w t)) th
  have n1 := nextN_le (th.map (·.2)) (numS r w (tkS w t)) th.length 2
  unfold nameF
  cases r with
  | count =>
    show okText 42 (if _ then _ else _) = true
    split
    · exact ok_mono b (by decide)
    · exact ok_append b (til_ok _ (by omega))
  | free =>
    show okText 42 (if _ then _ else _) = true
    split
    · exact numS_ok b (by omega)
    · exact ok_mono b (by decide)
  | tight =>
    show okText 42 (if _ then _ else _) = true
    split
    · exact numS_ok b (by omega)
    · exact ok_mono b (by decide)
def thF (r : Ru) (w : Nat) (ts : List Str) : List (Str × Str) := ts.foldl (fun th t => th ++ [(t, nameF r w t th)]) []
theorem thF_snoc (r : Ru) (w : Nat) (ts : List Str) (t : Str) : thF r w (ts ++ [t]) = thF r w ts ++ [(t, nameF r w t (thF r w ts))] := by
  unfold thF
  rw [List.foldl_append]
  rfl
theorem thF_take {r : Ru} {w : Nat} {ts : List Str} {i : Nat} {t : Str} (h : ts[i]? = some t) : thF r w (ts.take (i + 1)) = thF r w (ts.take i) ++ [(t, nameF r w t (thF r w (ts.take i)))] := by
  rw [take_snoc h, thF_snoc]
theorem thF_len (r : Ru) (w : Nat) : ∀ n (ts : List Str), ts.length = n → (thF r w ts).length = n
  | 0, ts, h => by
    cases ts with
    | nil => rfl
    | cons a b => cases h
  | n + 1, ts, h => by
    have hne : ts ≠ [] := by rintro rfl; cases h
    have e := List.dropLast_concat_getLast hne
    rw [← e, thF_snoc, List.length_append, thF_len r w n ts.dropLast (by rw [List.length_dropLast]; omega)]
    rfl
def namesF (r : Ru) (w : Nat) (ts : List Str) : List Str := (thF r w ts).map (·.2)
def pD (p : Str × Str) : D := .tup [.str p.1, .str p.2]
theorem thF_ok {r : Ru} {w : Nat} (hw : w ≤ 40) {ts : List Str} (ht : ∀ t ∈ ts, okText 200 t = true) (hl : ts.length ≤ 8) : ∀ i, ∀ p ∈ thF r w (ts.take i), okText 200 p.1 = true ∧ okText 42 p.2 = true
  | 0 => fun p hp => by cases hp
  | i + 1 => fun p hp => by
    by_cases hi : i < ts.length
    · have e : ts[i]? = some ts[i] := List.getElem?_eq_getElem hi
      rw [thF_take e] at hp
      rcases List.mem_append.mp hp with z | z
      · exact thF_ok hw ht hl i p z
      · rw [List.mem_singleton.mp z]
        refine ⟨ht _ (List.getElem_mem hi), nameF_ok hw (ht _ (List.getElem_mem hi)) ?_⟩
        rw [thF_len r w (ts.take i).length _ rfl, List.length_take]
        omega
    · rw [List.take_of_length_le (by omega)] at hp
      rw [← List.take_of_length_le (show ts.length ≤ i by omega)] at hp
      exact thF_ok hw ht hl i p hp
def namerD (C : Addr) (r : Ru) (w : Nat) : D := .ins C ["rule", "width"] [.str r.str, .int w]
theorem namerD_flat (C : Addr) (r : Ru) (w : Nat) : D.flat (namerD C r w) = true := by simp [namerD, D.flat, D.flats]
end U

/-! U14: more small rules for readings left unexpanded. -/
namespace U
open PySem PySem.Spec PyProof.Rows L2
section
variable {K : PySem.W.Frag} {H : Hp} {Q : VK}
theorem adS {a b : Str} (h : a.length + b.length ≤ sizeLine) (q : Q (.str (a ++ b)) H) : rAddU (.str a) (.str b) H Q := ⟨h, q⟩
theorem adS' {a b : Str} {n m : Nat} (h1 : okText n a = true) (h2 : okText m b = true) (hn : n + m ≤ 100000) (q : okText (n + m) (a ++ b) = true → Q (.str (a ++ b)) H) : rAddU (.str a) (.str b) H Q :=
  ⟨by have := (okText_iff.mp h1).1; have := (okText_iff.mp h2).1; rw [sizeLine_eq]; omega, q (ok_append h1 h2)⟩
theorem ixS {z : Str} {i : Int} {c : Nat} (hz : z.length ≤ 1000000) (g : (cd z)[i.toNat]? = some c) (h0 : 0 ≤ i) (q : Q (.str (one c)) H) : rIxU K (.str z) (.int i) H Q := by
  obtain ⟨n, rfl⟩ := Int.eq_ofNat_of_zero_le h0
  rw [Int.toNat_natCast] at g
  refine ⟨c, ?_, atI_nat (show z.cps.toList[n]? = _ from g), q⟩
  rw [sizeLine_eq]
  omega
theorem eqI {i j : Int} (q : Q (.bl (decide (i = j))) H) : rEqU K (.int i) (.int j) H Q := ⟨rfl, by rw [show decide (V.int i = V.int j) = decide (i = j) by simp]; exact q⟩
theorem eqS {i j : Str} (q : Q (.bl (decide (i = j))) H) : rEqU K (.str i) (.str j) H Q := ⟨rfl, by rw [show decide (V.str i = V.str j) = decide (i = j) by simp]; exact q⟩
theorem neI {i j : Int} (q : Q (.bl (!decide (i = j))) H) : rNeU K (.int i) (.int j) H Q := ⟨rfl, by rw [show decide (V.int i = V.int j) = decide (i = j) by simp]; exact q⟩
theorem neS {i j : Str} (q : Q (.bl (!decide (i = j))) H) : rNeU K (.str i) (.str j) H Q := ⟨rfl, by rw [show decide (V.str i = V.str j) = decide (i = j) by simp]; exact q⟩
theorem joinL {p : Addr} {l : List Nat} (hp : H p = some (.lst (l.map fun c => V.str (one c)))) (hl : l.length ≤ 4000000) (q : Q (.str (ofL l)) H) : rJoin K (.str (Str.ofString "")) [.ref p] H Q := by
  refine ⟨_, p, l.map one, rfl, rfl, .inl (SqL.of (by rw [hp, List.map_map]; rfl)), ?_, ?_⟩
  · rw [List.map_map, List.length_map]
    have e4 : l.map ((fun x => x.length) ∘ one) = l.map fun _ => 1 := rfl
    rw [e4, sum_ones]
    show _ + _ * 0 ≤ _
    omega
  · rw [U.join_one1]
    exact q
theorem mul_ok : ∀ {n : Nat} {z : Str}, okText n z = true → ∀ c ∈ cd (Txt.mul z 200), c ∈ signs := by
  intro n z h c hc
  have h2 := (okText_iff.mp h).2
  have key : ∀ (k : Nat) (acc : Array Nat), (∀ c ∈ acc.toList, c ∈ signs) → ∀ c ∈ ((List.replicate k z.cps).foldl (· ++ ·) acc).toList, c ∈ signs := by
    intro k
    induction k with
    | zero => intro acc ha; exact ha
    | succ k ih =>
      intro acc ha
      rw [List.replicate_succ, List.foldl_cons]
      refine ih _ fun c hc => ?_
      rw [Array.toList_append] at hc
      rcases List.mem_append.mp hc with q | q
      · exact ha c q
      · exact h2 c q
  unfold Txt.mul at hc
  rw [if_neg (by decide)] at hc
  split at hc
  · exact h2 c hc
  · exact key _ #[] (fun c h => by cases h) c hc
theorem cut_ok {m : Nat} {z : Str} (h : ∀ c ∈ cd z, c ∈ signs) : okText m (ofL ((cd z).take m)) = true := by
  refine okText_iff.mpr ⟨?_, fun c hc => h c ?_⟩
  · rw [← cd_len, cd_ofL, List.length_take]
    omega
  · rw [cd_ofL] at hc
    exact List.mem_of_mem_take hc
theorem til_sm {i : Int} {Q : Str → Prop} (h0 : 0 ≤ i) (h1 : i ≤ 9) (q : okText 1 (Str.ofString (toString i)) = true → Q (Str.ofString (toString i))) : i.natAbs.log2 < 1920 ∧ Q (Str.ofString (toString i)) := by
  obtain ⟨n, rfl⟩ := Int.eq_ofNat_of_zero_le h0
  have a : ∀ n : Nat, n < 10 → okText 1 (Str.ofString (toString (n : Int))) = true := by decide +kernel
  have b : ∀ n : Nat, n < 10 → ((n : Nat) : Int).natAbs.log2 < 1920 := by decide +kernel
  exact ⟨b n (by omega), q (a n (by omega))⟩
end
end U

/-! U15: a namer as an object. -/
namespace U
open PySem PySem.Spec PyProof.Rows L2
theorem nm_f1 (l : V) : putF "rule" l [] = [(("rule" : Str), l)] := rfl
theorem nm_f2 (l h : V) : putF "width" h [(("rule" : Str), l)] = [(("rule" : Str), l), ("width", h)] := by rfl
theorem nmF {S : Addr → Prop} {H : Hp} {C : Addr} {v : V} {r : Ru} {wd : Nat} (h : Dt S H v (namerD C r wd)) : ∃ a dx, v = .ref a ∧ ¬ S a ∧ H a = some (.ins C dx [(("rule" : Str), .str r.str), ("width", .int wd)]) := by
  unfold namerD at h
  cases h with
  | @ins a _ dx fs _ _ n ha hn hs =>
    refine ⟨a, dx, rfl, n, ?_⟩
    match fs, hn, hs with
    | [(_, _), (_, _)], hn, .cons h1 (.cons h2 .nil) =>
      cases h1
      cases h2
      simp only [List.map_cons, List.map_nil, List.cons.injEq, and_true] at hn
      obtain ⟨rfl, rfl⟩ := hn
      exact ha
theorem dt_nm {S : Addr → Prop} {H : Hp} {C a dx : Addr} {r : Ru} {wd : Nat} (n : ¬ S a) (h : H a = some (.ins C dx [(("rule" : Str), .str r.str), ("width", .int wd)])) : Dt S H (.ref a) (namerD C r wd) :=
  .ins n h rfl (.cons (.str _) (.cons (.int _) .nil))
section
variable {K : PySem.W.Frag} {H : Hp} {Q : VK} {σ : L2.St}
theorem lenL {p : Addr} {xs : List V} (h : H p = some (.lst xs)) (q : Q (.int xs.length) H) : rLenU K [.ref p] H Q := ⟨xs, .inl (SqL.of h), q⟩
theorem lenT {p : Addr} {xs : List V} (h : H p = some (.tup xs)) (q : Q (.int xs.length) H) : rLenU K [.ref p] H Q := ⟨xs, .inr (SqT.of h), q⟩
theorem lenS {z : Str} (h : z.length ≤ 4000000) (q : Q (.int z.length) H) : rLenU K [.str z] H Q := ⟨by rw [sizeLine_eq]; omega, q⟩
theorem inV_str (x : Str) : ∀ l : List Str, inV (.str x) (l.map V.str) = decide (x ∈ l)
  | [] => rfl
  | y :: l => by
    show (eqV (.str y) (.str x) || inV (.str x) (l.map V.str)) = _
    rw [inV_str x l]
    show ((y == x) || decide (x ∈ l)) = _
    rw [Bool.eq_iff_iff]
    simp only [Bool.or_eq_true, beq_iff_eq, decide_eq_true_eq, List.mem_cons]
    exact ⟨fun h => h.elim (fun h => .inl h.symm) .inr, fun h => h.elim (fun h => .inl h.symm) .inr⟩
theorem flat_strs (l : List Str) : (l.map V.str).all flatV = true := by
  rw [List.all_eq_true]
  intro x h
  obtain ⟨y, _, rfl⟩ := List.mem_map.mp h
  rfl
theorem inL {p : Addr} {x : Str} {l : List Str} (h : H p = some (.lst (l.map V.str))) (q : Q (.bl (decide (x ∈ l))) H) : rInU K (.str x) (.ref p) H Q := ⟨_, .inl (SqL.of h), rfl, flat_strs l, by rw [inV_str]; exact q⟩
theorem ninL {p : Addr} {x : Str} {l : List Str} (h : H p = some (.lst (l.map V.str))) (q : Q (.bl (!decide (x ∈ l))) H) : rNinU K (.str x) (.ref p) H Q := ⟨_, .inl (SqL.of h), rfl, flat_strs l, by rw [inV_str]; exact q⟩
theorem fs2 {z : Str} {k : Nat} {i : Int} {Q : Str → Hp → Prop} (hk : σ[k]? = some (some (.int i))) (h1 : i.natAbs.log2 < 1920) (h2 : z.length + (Str.ofString (toString i)).length ≤ 1000) (q : Q (z ++ Str.ofString (toString i)) H) : tJs [tC (.str z), tFmt (tVar k)] Str.empty σ H Q := by
  refine ⟨z, rfl, ?_, _, hk, .inr ⟨i, rfl, h1, _, rfl, ?_, ?_⟩⟩
  · rw [empty_append, sizeLine_eq]
    omega
  · rw [empty_append, len_append, sizeLine_eq]
    omega
  · rw [empty_append]
    exact q
theorem small_log {n : Nat} (h : n ≤ 9) : ((n : Nat) : Int).natAbs.log2 < 1920 := by
  have b : ∀ n : Nat, n < 10 → ((n : Nat) : Int).natAbs.log2 < 1920 := by decide +kernel
  exact b n (by omega)
theorem fs_til {n : Nat} {k : Nat} {Q : Str → Hp → Prop} (hk : σ[k]? = some (some (.int (n : Int)))) (hn : n ≤ 9) (q : Q (til n) H) : tJs [tC (.str (Str.ofString "~")), tFmt (tVar k)] Str.empty σ H Q := by
  have e := til_len n hn
  unfold til at e
  rw [len_append] at e
  exact fs2 hk (small_log hn) (by omega) q
theorem fldC {a C dx : Addr} {fs : List (Str × V)} {f : Str} {v : V} {K : PySem.W.Frag} {R : V → Prop} (h : H a = some (.ins C dx fs)) (c : Cls K C) (n : NoAttr K C f) (l : fs.lookup f = some v) (q : R v) :
    ∃ x x_1 x_2, H a = some (HO.ins x x_1 x_2) ∧ Cls K x ∧ NoAttr K x f ∧ ∃ x, x_2.lookup f = some x ∧ R x := ⟨_, _, _, h, c, n, _, l, q⟩
end
theorem dt_pD {S : Addr → Prop} {H : Hp} {v : V} {p : Str × Str} (h : Dt S H v (pD p)) : ∃ a, v = .ref a ∧ ¬ S a ∧ H a = some (.tup [.str p.1, .str p.2]) := by
  obtain ⟨a, xs, rfl, n, ha, hs⟩ := dt_tup h
  refine ⟨a, rfl, n, ?_⟩
  cases hs with
  | cons h1 h2 =>
    cases h2 with
    | cons h2 h3 =>
      cases h3
      cases h1
      cases h2
      exact ha
theorem pD_flat (p : Str × Str) : D.flat (pD p) = true := rfl
theorem filter_snoc {α : Type} {l : List α} {p : α → Bool} {i : Nat} {x : α} (h : l[i]? = some x) : (l.take (i + 1)).filter p = (l.take i).filter p ++ (if p x = true then [x] else []) := by
  rw [take_snoc h, List.filter_append, List.filter_cons]
  split <;> simp
theorem tkS_all {n : Nat} {z : Str} (h : z.length ≤ n) : tkS n z = z := by
  unfold tkS
  rw [List.take_of_length_le (by rw [cd_len]; exact h)]
  rfl
/-- xs == [] -/
theorem eq_nil {K : PySem.W.Frag} {H : Hp} {p q : Addr} {ds : List D} {W k : Nat} {Q : VK} (h1 : Dt N0 H (.ref p) (.lst ds)) (h2 : H q = some (.lst [])) (hd : okPs W k ds) (hk : k + 1 ≤ 64) (c : Q (.bl (decide (ds.length = 0))) H) : rEqU K (.ref p) (.ref q) H Q := by
  obtain ⟨ps, e, a⟩ := hd
  have e1 : D.py (.lst ds) = some (.list ps) := by rw [D.py, e]; rfl
  refine ⟨.list ps, .list [], Dt.dp _ h1 e1, .lst (SqL.of h2) .nil, a.list.shaped hk, by rfl, ?_⟩
  have e2 : PyData.eqv (.list ps) (.list []) = decide (ds.length = 0) := by
    cases ds with
    | nil => rw [D.pys] at e; cases e; rfl
    | cons d ds =>
      rw [D.pys] at e
      cases q1 : D.py d with
      | none => rw [q1] at e; cases e
      | some y =>
        cases q2 : D.pys ds with
        | none => rw [q1, q2] at e; cases e
        | some z => rw [q1, q2] at e; cases e; rfl
  rw [e2]
  exact c
theorem pD_ok {p : Str × Str} (h : okText 200 p.1 = true ∧ okText 42 p.2 = true) : okP 402 1 (pD p) :=
  (okPs.tuple (okPs.all (ds := [.str p.1, .str p.2]) (W := 200) (k := 0) fun d hd => by
    simp only [List.mem_cons, List.not_mem_nil, or_false] at hd
    rcases hd with rfl | rfl
    · exact okP.text h.1
    · exact (okP.text h.2).mono (by decide) (Nat.le_refl _))).mono (show 2 * (200 + 1) ≤ 402 by decide) (Nat.le_refl _)
theorem strs_ok {n : Nat} {l : List Str} (h : ∀ z ∈ l, okText n z = true) : okPs (l.length * (n + 1)) 0 (l.map D.str) := by
  have := okPs.all (W := n) (k := 0) (ds := l.map D.str) fun d hd => by
    obtain ⟨z, hz, rfl⟩ := List.mem_map.mp hd
    exact okP.text (h z hz)
  rw [List.length_map] at this
  exact this
theorem cutS_tk (z : Str) (n : Nat) : cutS z none (some (n : Int)) = tkS n z := cutS_to z n
theorem dtA_strs {S : Addr → Prop} {H : Hp} : ∀ l : List Str, DtA S H (l.map V.str) (l.map D.str)
  | [] => .nil
  | z :: l => .cons (.str z) (dtA_strs l)
theorem dt_tstrs {H : Hp} {p : Addr} {l : List Str} (h : H p = some (.tup (l.map V.str))) : Dt N0 H (.ref p) (.tup (l.map D.str)) := .tup (fun z => z) h (dtA_strs l)
theorem dt_lstrs {H : Hp} {p : Addr} {l : List Str} (h : H p = some (.lst (l.map V.str))) : Dt N0 H (.ref p) (.lst (l.map D.str)) := .lst (fun z => z) h (dtA_strs l)
theorem namesF_ok {r : Ru} {w : Nat} (hw : w ≤ 40) {ts : List Str} (ht : ∀ t ∈ ts, okText 200 t = true) (hl : ts.length ≤ 8) : ∀ z ∈ namesF r w ts, okText 42 z = true := by
  intro z hz
  obtain ⟨p, hp, rfl⟩ := List.mem_map.mp hz
  have := thF_ok (r := r) hw ht hl ts.length
  rw [List.take_length] at this
  exact (this p hp).2
theorem namesF_len (r : Ru) (w : Nat) (ts : List Str) : (namesF r w ts).length = ts.length := by
  unfold namesF
  rw [List.length_map, thF_len r w ts.length ts rfl]
theorem namesF_okP {r : Ru} {w : Nat} (hw : w ≤ 40) {ts : List Str} (ht : ∀ t ∈ ts, okText 200 t = true) (hl : ts.length ≤ 8) : okP 1000 1 (.tup ((namesF r w ts).map D.str)) := by
  have := (strs_ok (namesF_ok (r := r) hw ht hl)).tuple
  refine this.mono ?_ (Nat.le_refl _)
  rw [namesF_len]
  have := Nat.mul_le_mul_right 43 hl
  omega
end U

/-! U16: t[::-1] of a tuple. -/
namespace U
open PySem PySem.Spec PyProof.Rows L2 HT
section
variable {prog : Program} {w : World} {A : Around} {E : Value → Shared → Prop} {s : Shared}
theorem adjust_rev (n : Nat) : Builtin.Slice.sliceAdjust none none (-1) (n : Int) = ((n : Int) - 1, -1) := by
  unfold Builtin.Slice.sliceAdjust
  have h : ((-1 : Int) < 0) := by omega
  simp only [h, if_true]
theorem places_rev (n : Nat) : Builtin.Slice.slicePlaces ((n : Int) - 1) (-1) (-1) = n := by
  unfold Builtin.Slice.slicePlaces
  have h : ¬ ((-1 : Int) > 0) := by omega
  simp only [h, if_false, Int.neg_neg, Int.ediv_one]
  split <;> omega
theorem applied_rev {sl : Addr} {vl vu vs : Value} {n : Nat} {Q : Int × Int × Nat → Shared → Prop} (hs : s.heap.IsSliceOf sl vl vu vs) (pl : IsPart vl none) (pu : IsPart vu none) (ps : IsPart vs (some (-1)))
    (h : Q ((n : Int) - 1, -1, n) s) : wpAny (model prog w) A (Builtin.Slice.sliceApplied (.ref sl) (pure (n : Int))) Q E s := by
  obtain ⟨os, hos, hcs, hds⟩ := id hs
  unfold Builtin.Slice.sliceApplied Builtin.Slice.sliceFields
  refine wpAny_bind (wpAny_bind (wpAny_field hos hds (x := vl) rfl (wpAny_bind (wpAny_field hos hds (x := vu) rfl (wpAny_bind (wpAny_field hos hds (x := vs) rfl (wpAny_pure ?_)))))))
  refine wpAny_bind (slicePart_ ps ?_)
  show wpAny _ _ (if ((-1 : Int) == 0) = true then _ else _) _ _ s
  rw [if_neg (by decide)]
  refine wpAny_bind (slicePart_ pl (wpAny_bind (slicePart_ pu (wpAny_bind (wpAny_pure ?_)))))
  show wpAny _ _ (match Builtin.Slice.sliceAdjust none none (-1) (n : Int) with | (lo, hi) => pure (lo, (-1 : Int), Builtin.Slice.slicePlaces lo hi (-1))) _ _ s
  rw [adjust_rev]
  show wpAny _ _ (pure ((n : Int) - 1, (-1 : Int), Builtin.Slice.slicePlaces ((n : Int) - 1) (-1) (-1))) _ _ s
  rw [places_rev]
  exact wpAny_pure h
theorem fm_congr {α β : Type} {f g : α → Option β} : ∀ {l : List α}, (∀ k ∈ l, f k = g k) → l.filterMap f = l.filterMap g
  | [], _ => rfl
  | a :: l, h => by
    rw [List.filterMap_cons, List.filterMap_cons, h a List.mem_cons_self, fm_congr fun k hk => h k (List.mem_cons_of_mem _ hk)]
theorem pick_rev (xs : Array Value) : ((List.range xs.size).filterMap fun (k : Nat) => xs[(((xs.size : Nat) : Int) - 1 + (k : Int) * (-1)).toNat]?) = xs.toList.reverse := by
  have e : ∀ k ∈ List.range xs.size, xs[(((xs.size : Nat) : Int) - 1 + (k : Int) * (-1)).toNat]? = some (xs.toList.reverse.getD k .none) := by
    intro k hk
    have hk := List.mem_range.mp hk
    have : (((xs.size : Nat) : Int) - 1 + (k : Int) * (-1)).toNat = xs.size - 1 - k := by omega
    rw [this, List.getD_eq_getElem?_getD, List.getElem?_reverse (by rw [Array.length_toList]; exact hk), Array.length_toList, Array.getElem?_toList]
    rw [Array.getElem?_eq_getElem (by omega)]
    rfl
  rw [fm_congr e]
  have : ∀ (l : List Value), (List.range l.length).filterMap (fun k => some (l.getD k .none)) = l := by
    intro l
    refine List.ext_getElem? fun i => ?_
    rw [show (fun k => some (l.getD k .none)) = some ∘ fun k => l.getD k Value.none from rfl, List.filterMap_eq_map, List.getElem?_map]
    by_cases h : i < l.length
    · rw [List.getElem?_range h]
      simp [h]
    · rw [List.getElem?_eq_none (by rw [List.length_range]; omega), List.getElem?_eq_none (by omega)]
      rfl
  have q := this xs.toList.reverse
  rw [List.length_reverse, Array.length_toList] at q
  exact q
theorem getItem_rev {t sl : Addr} {items : Array Value} {vl vu vs : Value} {Q : Value → Shared → Prop} (ht : IsTup s.heap t items) (hs : s.heap.IsSliceOf sl vl vu vs) (pl : IsPart vl none) (pu : IsPart vu none) (ps : IsPart vs (some (-1)))
    (h : Q (.ref s.heap.objs.size) { s with heap := s.heap.push { cls := .type "tuple", data := .seq items.toList.reverse.toArray } })
    (hsz : items.size ≤ sizeLine) : wpAny (model prog w) A (getItem (.ref t) (.ref sl)) Q E s := by
  have htake : sizeOk (.seq items.toList.reverse.toArray) := by
    show items.toList.reverse.toArray.size ≤ sizeLine
    rw [List.size_toArray, List.length_reverse, Array.length_toList]
    exact hsz
  obtain ⟨os, hos, hcs, hds⟩ := id hs
  have hTs : s.TypeIs (.ref sl) "slice" := ⟨os, hos, hcs⟩
  unfold getItem
  try with_reducible refine wpAny_holding ?_
  first | refine wpAny_bind (wpAny_pure ?_) | skip
  refine wpAny_bind (wpAny_sequenceKey ht.typeIs (by decide) ?_)
  refine wpAny_bind (wpAny_callSpecial?_slot (name := Str.ofString "__getitem__") ht.typeIs PyProof.Rows.slot_tuple_getitem
    (wpAny_call_entry PyProof.Rows.slot_tuple_getitem ht.typeIs PyProof.Rows.entry_tuple_getitem ?_ (PyProof.Rows.args_tuple_getitem _ _)))
  show wpAny _ _ (Builtin.Tuple.tupleItemsOf (.ref t) >>= _) _ _ s
  refine wpAny_bind (tupleItemsOf_ ht ?_)
  refine wpAny_bind (wpAny_typeOf hTs ?_)
  rw [if_pos (by decide)]
  refine wpAny_bind (applied_rev hs pl pu ps ?_)
  have hno : ¬ ((((items.size : Nat) : Int) - 1 == 0 && (-1 : Int) == 1 && items.size == items.size) = true) := by
    intro q
    rw [Bool.and_eq_true, Bool.and_eq_true] at q
    exact absurd q.1.2 (by decide)
  show wpAny _ _ (if (((items.size : Nat) : Int) - 1 == 0 && (-1 : Int) == 1 && items.size == items.size) = true then _ else _) _ _ s
  rw [if_neg hno, pick_rev]
  first
    | exact wpAny_bind (m := Builtin.Tuple.tupleExact _) (wpAny_newObj_type (wpAny_pure ⟨_, rfl, wpAny_pure h⟩) htake)
    | exact wpAny_bind (wpAny_bind (m := Builtin.Tuple.tupleExact _) (wpAny_newObj_type (wpAny_pure ⟨_, rfl, wpAny_pure h⟩) htake))
end
section
variable {X : Cx}
def tRevT (K : PySem.W.Frag) (te : TE) : TE := fun σ H Q => te σ H fun x H1 => ∃ a xs, x = .ref a ∧ SqT K H1 a xs ∧ ∀ p, H1 p = none → Q (.ref p) (upd H1 p (.tup xs.reverse))
theorem pe_revT {e : Expr} {te : TE} {k : Nat} {p1 p2 p3 pos : Pos} (he : PE X e te) : PE X (.Subscript e (.Slice none none (some (.UnaryOp .USub (.Constant (.int 1) k p1) p2)) p3) pos) (tRevT X.K te) := by
  refine ⟨fun pins s σ H Q I h => Subscript_ (thn (he.run pins s σ H _ I h) fun v s1 ⟨x, H1, I1, r1, q1⟩ => ?_)⟩
  obtain ⟨a, xs, ex, hx, q⟩ := q1
  subst ex
  cases r1
  have st : PO X (some (.UnaryOp .USub (.Constant (.int 1) k p1) p2)) (tPart (tUn (rU fun i => .int (-i)) (tC (.int 1)))) := po_some (pe_un un_neg pe_int)
  refine wpAny_Slice (thn (po_none.run pins s1 σ H1 (fun o H2 => o = none ∧ H2 = H1) I1 ⟨rfl, rfl⟩) fun vl s2 ⟨l, H2, I2, pl, el, e2⟩ => ?_)
  subst el
  subst e2
  refine thn (po_none.run pins s2 σ H2 (fun o H3 => o = none ∧ H3 = H2) I2 ⟨rfl, rfl⟩) fun vu s3 ⟨u, H3, I3, pu, eu, e3⟩ => ?_
  subst eu
  subst e3
  refine thn (st.run pins s3 σ H3 (fun o H4 => o = some (-1) ∧ H4 = H3) I3 ⟨1, rfl, -1, rfl, rfl, rfl⟩) fun vs s4 ⟨o, H4, I4, ps, eo, e4⟩ => ?_
  subst eo
  subst e4
  have J : Inv X pins σ H4 { s4 with heap := s4.heap.push { cls := .type "slice", data := .fields #[vl, vu, vs] } } := I4.kept (t' := s4.toks) fun b ob q => Heap.get?_push_of_some _ q
  obtain ⟨its, r, ht, hz⟩ := J.tuple hx
  have hl := r.length
  show wpAny (model X.prog X.w) X.A (subscriptTail e (.Slice none none (some (.UnaryOp .USub (.Constant (.int 1) k p1) p2)) p3) (.ref a) (.ref s4.heap.objs.size)) (EP X pins σ Q) X.xe { s4 with heap := s4.heap.push { cls := .type "slice", data := .fields #[vl, vu, vs] } }
  refine tail_any (ops := [.ref a, .ref s4.heap.objs.size]) ht.typeIs (PyProof.Rows.slot_tuple_getitem.lookup) ?_ (by with_unfolding_all rfl)
  refine getItem_rev ht (Heap.IsSliceOf.new _ vl vu vs) pl pu ps ?_ (by rw [List.size_toArray]; omega)
  refine ⟨.ref _, _, J.laid (t' := s4.toks) (o := .tup xs.reverse) (fun b ob q => Heap.get?_push_of_some _ q) (Nat.le_refl _) ?_, rfl, q _ (J.hok.fresh (Nat.le_refl _))⟩
  exact ⟨by rw [List.length_reverse]; exact hz, _, r.reverse, IsTup.new _ _⟩
end
theorem e_revT {K : PySem.W.Frag} {te : TE} {σ : L2.St} {H : Hp} {Q : VK} : tRevT K te σ H Q = te σ H fun x H1 => ∃ a xs, x = .ref a ∧ SqT K H1 a xs ∧ ∀ p, H1 p = none → Q (.ref p) (upd H1 p (.tup xs.reverse)) := rfl
theorem py_strs : ∀ l : List Str, D.pys (l.map D.str) = some (l.map PyData.str)
  | [] => by rw [List.map_nil, D.pys]; rfl
  | z :: l => by rw [List.map_cons, D.pys, py_strs l, D.py]; rfl
def showN (l : List Str) : Str := PyData.shown (.tuple (l.map PyData.str))
theorem repr_strs {K : PySem.W.Frag} {H : Hp} {p : Addr} {l : List Str} {Q : VK} (h : H p = some (.tup (l.map V.str))) (hok : ∀ z ∈ l, okText 200 z = true) (hl : l.length ≤ 100) (q : Q (.str (showN l)) H) : rRepr K [.ref p] H Q := by
  refine repr_of (dt_tstrs h) ((strs_ok hok).tuple.mono (show _ ≤ 100 * 201 from Nat.mul_le_mul_right _ hl) (Nat.le_refl _)) (by decide) (by decide) fun pd hpd => ?_
  rw [D.py, py_strs] at hpd
  cases hpd
  exact q
section
variable {K : PySem.W.Frag} {H : Hp} {Q : VK}
theorem kTL {p : Addr} {xs : List V} (h : H p = some (.lst xs)) (q : ∀ y, H y = none → Q (.ref y) (upd H y (.tup xs))) : kTup K (.ref p) H Q := .inl ⟨_, _, rfl, SqL.of h, q⟩
theorem kTT {p : Addr} {xs : List V} (h : H p = some (.tup xs)) (q : Q (.ref p) H) : kTup K (.ref p) H Q := .inr ⟨_, _, rfl, SqT.of h, q⟩
theorem slL {p : Addr} {xs : List V} {n : Nat} (h : H p = some (.lst xs)) (q : ∀ y, H y = none → Q (.ref y) (upd H y (.lst (xs.take n)))) : rSlU K (.ref p) none (some (n : Int)) H Q := by
  refine ⟨_, sli_l (SqL.of h), fun y ny => ?_⟩
  rw [cutV_to]
  exact q y ny
theorem adL {a b : Addr} {xs ys : List V} (h1 : H a = some (.lst xs)) (h2 : H b = some (.lst ys)) (hl : xs.length + ys.length ≤ 1000000) (q : ∀ y, H y = none → Q (.ref y) (upd H y (.lst (xs ++ ys)))) : rAddU (.ref a) (.ref b) H Q :=
  ⟨_, _, h1, h2, by rw [sizeLine_eq]; omega, q⟩
end
end U

/-! U17: names of a beginning; what a name is like. -/
namespace U
open PySem PySem.Spec PyProof.Rows L2
theorem thF_more (r : Ru) (w : Nat) : ∀ (b a : List Str), ∃ c, thF r w (a ++ b) = thF r w a ++ c
  | [], a => ⟨[], by rw [List.append_nil, List.append_nil]⟩
  | t :: b, a => by
    obtain ⟨c, hc⟩ := thF_more r w b (a ++ [t])
    exact ⟨_, by rw [show a ++ t :: b = (a ++ [t]) ++ b by simp, hc, thF_snoc, List.append_assoc]⟩
theorem thF_pre (r : Ru) (w : Nat) (ts : List Str) (k : Nat) (hk : k ≤ ts.length) : thF r w (ts.take k) = (thF r w ts).take k := by
  obtain ⟨c, hc⟩ := thF_more r w (ts.drop k) (ts.take k)
  rw [List.take_append_drop] at hc
  have l := thF_len r w (ts.take k).length _ rfl
  rw [List.length_take, Nat.min_eq_left hk] at l
  rw [hc, List.take_append_of_le_length (by omega)]
  exact (List.take_of_length_le (by omega)).symm
theorem namesF_pre (r : Ru) (w : Nat) (ts : List Str) (k : Nat) (hk : k ≤ ts.length) : namesF r w (ts.take k) = (namesF r w ts).take k := by
  unfold namesF
  rw [thF_pre r w ts k hk, List.map_take]
theorem namesF_at {r : Ru} {w : Nat} {ts : List Str} {k : Nat} {t : Str} (h : ts[k]? = some t) : (namesF r w ts)[k]? = some (nameF r w t (thF r w (ts.take k))) := by
  have hk : k < ts.length := (List.getElem?_eq_some_iff.mp h).1
  have e := thF_pre r w ts (k + 1) hk
  rw [thF_take h] at e
  have l := thF_len r w (ts.take k).length _ rfl
  rw [List.length_take, Nat.min_eq_left (by omega)] at l
  have : ((thF r w ts).take (k + 1))[k]? = some (t, nameF r w t (thF r w (ts.take k))) := by
    rw [← e, List.getElem?_append_right (by omega), l]
    simp
  rw [List.getElem?_take_of_lt (by omega)] at this
  unfold namesF
  rw [List.getElem?_map, this]
  rfl
theorem thF_fst (r : Ru) (w : Nat) : ∀ n (ts : List Str), ts.length = n → (thF r w ts).map (·.1) = ts
  | 0, ts, h => by
    cases ts with
    | nil => rfl
    | cons a b => cases h
  | n + 1, ts, h => by
    have hne : ts ≠ [] := by rintro rfl; cases h
    have e := List.dropLast_concat_getLast hne
    have ih := thF_fst r w n ts.dropLast (by rw [List.length_dropLast]; omega)
    rw [← e, thF_snoc, List.map_append, ih]
    rfl
theorem mates_len (r : Ru) (w : Nat) (ts : List Str) (P : Str → Bool) : ((thF r w ts).filter fun p => P p.1).length = (ts.filter P).length := by
  have e := thF_fst r w ts.length ts rfl
  have : ((thF r w ts).map (·.1)).filter P = ((thF r w ts).filter fun p => P p.1).map (·.1) := by rw [List.filter_map]; rfl
  rw [e] at this
  rw [this, List.length_map]
theorem first_free {tk : List Str} {f : Nat → Str} (hf : ∀ i j, i ≤ tk.length + 2 → j ≤ tk.length + 2 → f i = f j → i = j) : ∃ m, 2 ≤ m ∧ m ≤ tk.length + 2 ∧ f m ∉ tk ∧ ∀ j, 2 ≤ j → j < m → f j ∈ tk := by
  have go : ∀ n, n ≤ tk.length + 1 → (∃ m, 2 ≤ m ∧ m ≤ tk.length + 2 ∧ f m ∉ tk ∧ ∀ j, 2 ≤ j → j < m → f j ∈ tk) ∨ ∀ j, 2 ≤ j → j ≤ n + 1 → f j ∈ tk := by
    intro n
    induction n with
    | zero => intro _; exact .inr fun j a b => by omega
    | succ n ih =>
      intro hn
      rcases ih (by omega) with h | h
      · exact .inl h
      · by_cases c : f (n + 2) ∈ tk
        · refine .inr fun j a b => ?_
          by_cases y : j = n + 2
          · rw [y]; exact c
          · exact h j a (by omega)
        · exact .inl ⟨n + 2, by omega, by omega, c, fun j a b => h j a (by omega)⟩
  rcases go (tk.length + 1) (Nat.le_refl _) with h | h
  · exact h
  · exact (pig hf h).elim
/-- a name that is neither counted: the base, or the first number that is free -/
theorem nameF_free {r : Ru} {w : Nat} {t : Str} {th : List (Str × Str)} (hr : r ≠ .count) (hl : th.length ≤ 7) :
    ∃ m, 1 ≤ m ∧ m ≤ th.length + 2 ∧ (if m = 1 then tkS w t else numS r w (tkS w t) m) ∉ th.map (·.2) ∧ (∀ j, 1 ≤ j → j < m → (if j = 1 then tkS w t else numS r w (tkS w t) j) ∈ th.map (·.2)) ∧
      nameF r w t th = if m = 1 then tkS w t else numS r w (tkS w t) m := by
  have e : nameF r w t th = if tkS w t ∈ th.map (·.2) then numS r w (tkS w t) (nextN (th.map (·.2)) (numS r w (tkS w t)) th.length 2) else tkS w t := by
    unfold nameF
    cases r with
    | count => exact absurd rfl hr
    | free => rfl
    | tight => rfl
  by_cases c : tkS w t ∈ th.map (·.2)
  · obtain ⟨m, h2, h3, h4, h5⟩ := first_free (tk := th.map (·.2)) (f := numS r w (tkS w t)) fun i j hi hj => by
      rw [List.length_map] at hi hj
      exact numS_one (by omega) (by omega)
    rw [List.length_map] at h3
    refine ⟨m, by omega, h3, by rw [if_neg (by omega)]; exact h4, fun j a b => ?_, ?_⟩
    · by_cases y : j = 1
      · rw [if_pos y]; exact c
      · rw [if_neg y]; exact h5 j (by omega) b
    · rw [e, if_pos c, nextN_eq h4 th.length 2 h2 (by omega) h5, if_neg (by omega)]
  · refine ⟨1, by omega, by omega, by rw [if_pos rfl]; exact c, fun j a b => by omega, ?_⟩
    rw [e, if_neg c, if_pos rfl]
section
variable {K : PySem.W.Frag} {H : Hp} {Q : VK}
theorem slT {p : Addr} {xs : List V} {k : Nat} (h : H p = some (.tup xs)) (hk : k < xs.length) (q : ∀ y, H y = none → Q (.ref y) (upd H y (.tup (xs.take k)))) : rSlU K (.ref p) none (some (k : Int)) H Q := by
  refine ⟨_, .inr ⟨xs, SqT.of h, ?_, rfl⟩, fun y ny => ?_⟩
  · rintro ⟨_, h2⟩
    have h2 : (if (k : Int) < 0 then ((k : Int) + (xs.length : Int)).toNat else min (k : Int).toNat xs.length) = xs.length := h2
    rw [if_neg (by omega)] at h2
    omega
  · rw [cutV_to]
    exact q y ny
theorem slS {z : Str} {k : Nat} (hz : z.length ≤ 1000000) (q : Q (.str (tkS k z)) H) : rSlU K (.str z) none (some (k : Int)) H Q := by
  refine ⟨by rw [sizeLine_eq]; omega, ?_⟩
  rw [cutS_tk]
  exact q
end
end U

/-! U18: == of tuples of texts; rows that cut a text's end off. -/
namespace U
open PySem PySem.Spec PyProof.Rows L2
theorem eqvAll_strs : ∀ l m : List Str, PyData.eqvAll (l.map PyData.str) (m.map PyData.str) = decide (l = m)
  | [], [] => by rw [List.map_nil, PyData.eqvAll]; rfl
  | [], y :: m => by rw [List.map_nil, List.map_cons, PyData.eqvAll]; rfl
  | x :: l, [] => by rw [List.map_nil, List.map_cons, PyData.eqvAll]; rfl
  | x :: l, y :: m => by
    rw [List.map_cons, List.map_cons, PyData.eqvAll, eqvAll_strs l m, PyData.eqv, Bool.eq_iff_iff]
    simp
theorem ne_tup {K : PySem.W.Frag} {H : Hp} {p q : Addr} {l m : List Str} {n : Nat} {Q : VK} (h1 : H p = some (.tup (l.map V.str))) (h2 : H q = some (.tup (m.map V.str))) (hl : ∀ z ∈ l, okText n z = true) (hm : ∀ z ∈ m, okText n z = true)
    (c : Q (.bl (!decide (l = m))) H) : rNeU K (.ref p) (.ref q) H Q := by
  obtain ⟨e, he, ho⟩ := (strs_ok hl).tuple
  obtain ⟨f, hf, hp⟩ := (strs_ok hm).tuple
  have e1 := he
  have f1 := hf
  rw [D.py, py_strs] at e1 f1
  cases e1
  cases f1
  refine ⟨_, _, Dt.dp _ (dt_tstrs h1) he, Dt.dp _ (dt_tstrs h2) hf, ho.shaped (by decide), hp.shaped (by decide), ?_⟩
  rw [PyData.eqv, eqvAll_strs]
  exact c
theorem cut_end (wd : Nat) (z : Str) : showS [⟨wd, wd, 0, Str.ofString ""⟩] z = tkS wd z := by
  unfold showS showC tkS
  rw [cutR_cons, cutR_nil]
  unfold cutP
  split
  · rename_i h
    have h : (cd z).length ≤ wd := h
    rw [List.take_of_length_le h]
  · have e : cd (Str.ofString "") = [] := by decide +kernel
    show ofL ((cd z).take wd ++ (cd (Str.ofString "")).map id ++ (cd z).drop ((cd z).length - 0)) = _
    rw [e, Nat.sub_zero, List.drop_length]
    simp
theorem names_one (r : Ru) (wd : Nat) (z : Str) : namesF r wd [z] = [tkS wd z] := by
  cases r <;> rfl
theorem names_two (r : Ru) (wd : Nat) (x y : Str) : namesF r wd [x, y] = [tkS wd x, nameF r wd y [(x, tkS wd x)]] := by
  cases r <;> rfl
theorem two_apart {r : Ru} {wd : Nat} {x y : Str} (h : tkS wd x ≠ tkS wd y) : nameF r wd y [(x, tkS wd x)] = tkS wd y := by
  unfold nameF
  cases r with
  | count =>
    have : ([(x, tkS wd x)].filter fun p : Str × Str => decide (tkS wd p.1 = tkS wd y)) = [] := by
      rw [List.filter_cons, if_neg (by simpa using h)]
      rfl
    show (if _ then _ else _) = _
    rw [this]
    rfl
  | free =>
    show (if _ then _ else _) = _
    rw [if_neg (by simpa using fun e => h e.symm)]
  | tight =>
    show (if _ then _ else _) = _
    rw [if_neg (by simpa using fun e => h e.symm)]
theorem two_count {wd : Nat} {x y : Str} (h : tkS wd x = tkS wd y) : nameF .count wd y [(x, tkS wd x)] = tkS wd x ++ til 2 := by
  unfold nameF
  have : ([(x, tkS wd x)].filter fun p : Str × Str => decide (tkS wd p.1 = tkS wd y)) = [(x, tkS wd x)] := by
    rw [List.filter_cons, if_pos (by simpa using h)]
    rfl
  show (if _ then _ else _) = _
  rw [this, h]
  rfl
theorem two_free {wd : Nat} {x y : Str} (h : tkS wd x = tkS wd y) : nameF .free wd y [(x, tkS wd x)] = tkS wd x ++ til 2 := by
  have hn : numS .free wd (tkS wd y) 2 ∉ [tkS wd x] := by
    intro hm
    have e := List.mem_singleton.mp hm
    have l : (tkS wd y ++ til 2).length = (tkS wd x).length := congrArg Str.length e
    rw [len_append, til_len 2 (by decide), h] at l
    omega
  unfold nameF
  show (if tkS wd y ∈ [tkS wd x] then numS .free wd (tkS wd y) (nextN [tkS wd x] (numS .free wd (tkS wd y)) 1 2) else tkS wd y) = _
  rw [if_pos (by rw [h]; exact List.mem_singleton.mpr rfl), nextN_eq hn 1 2 (by omega) (by omega) (fun j a b => by omega), h]
  rfl
theorem tk_tk (wd : Nat) (x : Str) : tkS (wd - 2) (tkS wd x) = tkS (wd - 2) x := by
  unfold tkS
  rw [cd_ofL, List.take_take, Nat.min_eq_left (by omega)]
theorem two_tight {wd : Nat} {x y : Str} (h : tkS wd x = tkS wd y) : nameF .tight wd y [(x, tkS wd x)] = if tkS wd x = tkS (wd - 2) x ++ til 2 then tkS (wd - 2) x ++ til 3 else tkS (wd - 2) x ++ til 2 := by
  have en : ∀ n, numS .tight wd (tkS wd y) n = tkS (wd - 2) x ++ til n := fun n => by
    show tkS (wd - 2) (tkS wd y) ++ til n = _
    rw [← h, tk_tk]
  unfold nameF
  show (if tkS wd y ∈ [tkS wd x] then numS .tight wd (tkS wd y) (nextN [tkS wd x] (numS .tight wd (tkS wd y)) 1 2) else tkS wd y) = _
  rw [if_pos (by rw [h]; exact List.mem_singleton.mpr rfl)]
  by_cases c : tkS wd x = tkS (wd - 2) x ++ til 2
  · have h3 : numS .tight wd (tkS wd y) 3 ∉ [tkS wd x] := by
      intro hm
      have e := List.mem_singleton.mp hm
      rw [en 3] at e
      rw [c] at e
      have e2 : tkS (wd - 2) x ++ til 3 = tkS (wd - 2) x ++ til 2 := by
        rw [e]
      exact absurd (til_one 3 2 (by decide) (by decide) (append_inj e2)) (by decide)
    rw [if_pos c, nextN_eq h3 1 2 (by omega) (by omega) (fun j a b => by
      have : j = 2 := by omega
      rw [this, en 2, ← c]
      exact List.mem_singleton.mpr rfl), en 3]
  · have h2 : numS .tight wd (tkS wd y) 2 ∉ [tkS wd x] := by
      intro hm
      have e := List.mem_singleton.mp hm
      rw [en 2] at e
      exact c e.symm
    rw [if_neg c, nextN_eq h2 1 2 (by omega) (by omega) (fun j a b => by omega), en 2]
end U

namespace G
open PySem PySem.Spec PyProof.Rows L2 U
def top (i : Nat) : Stmt := PySem.Challenge.pw_shownshort_k59_whole_bases_by_shorteners.main.body.getD i (.Pass ⟨0, 0, 0, 0⟩)
abbrev s_InvalidNumber___init__ : Stmt := inClass (top 2) 0
abbrev lv_InvalidNumber___init__ : Nat := 1
abbrev n_InvalidNumber___init__ : List Str := ["self", "value"]
abbrev p_InvalidNumber___init__ : List Str := ["self", "value"]
theorem sc_InvalidNumber___init__ : FnScope n_InvalidNumber___init__ p_InvalidNumber___init__ (L2.defScope s_InvalidNumber___init__) := ⟨rfl, rfl, rfl, by decide +kernel, rfl, by decide +kernel, by decide +kernel⟩
abbrev s_InvalidMark___init__ : Stmt := inClass (top 3) 0
abbrev lv_InvalidMark___init__ : Nat := 1
abbrev n_InvalidMark___init__ : List Str := ["self", "value"]
abbrev p_InvalidMark___init__ : List Str := ["self", "value"]
theorem sc_InvalidMark___init__ : FnScope n_InvalidMark___init__ p_InvalidMark___init__ (L2.defScope s_InvalidMark___init__) := ⟨rfl, rfl, rfl, by decide +kernel, rfl, by decide +kernel, by decide +kernel⟩
abbrev s_InvalidText___init__ : Stmt := inClass (top 4) 0
abbrev lv_InvalidText___init__ : Nat := 1
abbrev n_InvalidText___init__ : List Str := ["self", "value"]
abbrev p_InvalidText___init__ : List Str := ["self", "value"]
theorem sc_InvalidText___init__ : FnScope n_InvalidText___init__ p_InvalidText___init__ (L2.defScope s_InvalidText___init__) := ⟨rfl, rfl, rfl, by decide +kernel, rfl, by decide +kernel, by decide +kernel⟩
abbrev s_InvalidRule___init__ : Stmt := inClass (top 5) 0
abbrev lv_InvalidRule___init__ : Nat := 1
abbrev n_InvalidRule___init__ : List Str := ["self", "value"]
abbrev p_InvalidRule___init__ : List Str := ["self", "value"]
theorem sc_InvalidRule___init__ : FnScope n_InvalidRule___init__ p_InvalidRule___init__ (L2.defScope s_InvalidRule___init__) := ⟨rfl, rfl, rfl, by decide +kernel, rfl, by decide +kernel, by decide +kernel⟩
abbrev s_InvalidWidth___init__ : Stmt := inClass (top 6) 0
abbrev lv_InvalidWidth___init__ : Nat := 1
abbrev n_InvalidWidth___init__ : List Str := ["self", "value"]
abbrev p_InvalidWidth___init__ : List Str := ["self", "value"]
theorem sc_InvalidWidth___init__ : FnScope n_InvalidWidth___init__ p_InvalidWidth___init__ (L2.defScope s_InvalidWidth___init__) := ⟨rfl, rfl, rfl, by decide +kernel, rfl, by decide +kernel, by decide +kernel⟩
abbrev s_NotANamer___init__ : Stmt := inClass (top 7) 0
abbrev lv_NotANamer___init__ : Nat := 1
abbrev n_NotANamer___init__ : List Str := ["self", "value"]
abbrev p_NotANamer___init__ : List Str := ["self", "value"]
theorem sc_NotANamer___init__ : FnScope n_NotANamer___init__ p_NotANamer___init__ (L2.defScope s_NotANamer___init__) := ⟨rfl, rfl, rfl, by decide +kernel, rfl, by decide +kernel, by decide +kernel⟩
abbrev s_InvalidRow___init__ : Stmt := inClass (top 8) 0
abbrev lv_InvalidRow___init__ : Nat := 1
abbrev n_InvalidRow___init__ : List Str := ["self", "index"]
abbrev p_InvalidRow___init__ : List Str := ["self", "index"]
theorem sc_InvalidRow___init__ : FnScope n_InvalidRow___init__ p_InvalidRow___init__ (L2.defScope s_InvalidRow___init__) := ⟨rfl, rfl, rfl, by decide +kernel, rfl, by decide +kernel, by decide +kernel⟩
abbrev s_InvalidTexts___init__ : Stmt := inClass (top 9) 0
abbrev lv_InvalidTexts___init__ : Nat := 1
abbrev n_InvalidTexts___init__ : List Str := ["self", "index"]
abbrev p_InvalidTexts___init__ : List Str := ["self", "index"]
theorem sc_InvalidTexts___init__ : FnScope n_InvalidTexts___init__ p_InvalidTexts___init__ (L2.defScope s_InvalidTexts___init__) := ⟨rfl, rfl, rfl, by decide +kernel, rfl, by decide +kernel, by decide +kernel⟩
abbrev s_is_integer : Stmt := top 17
abbrev lv_is_integer : Nat := 1
abbrev n_is_integer : List Str := ["value"]
abbrev p_is_integer : List Str := ["value"]
theorem sc_is_integer : FnScope n_is_integer p_is_integer (L2.defScope s_is_integer) := ⟨rfl, rfl, rfl, by decide +kernel, rfl, by decide +kernel, by decide +kernel⟩
abbrev s_is_text : Stmt := top 18
abbrev lv_is_text : Nat := 1
abbrev n_is_text : List Str := ["value", "most", "sign"]
abbrev p_is_text : List Str := ["value", "most"]
theorem sc_is_text : FnScope n_is_text p_is_text (L2.defScope s_is_text) := ⟨rfl, rfl, rfl, by decide +kernel, rfl, by decide +kernel, by decide +kernel⟩
abbrev s_check_text : Stmt := top 19
abbrev lv_check_text : Nat := 3
abbrev n_check_text : List Str := ["value"]
abbrev p_check_text : List Str := ["value"]
theorem sc_check_text : FnScope n_check_text p_check_text (L2.defScope s_check_text) := ⟨rfl, rfl, rfl, by decide +kernel, rfl, by decide +kernel, by decide +kernel⟩
abbrev s_Namer___init__ : Stmt := inClass (top 24) 0
abbrev lv_Namer___init__ : Nat := 3
abbrev n_Namer___init__ : List Str := ["self", "rule", "width"]
abbrev p_Namer___init__ : List Str := ["self", "rule", "width"]
theorem sc_Namer___init__ : FnScope n_Namer___init__ p_Namer___init__ (L2.defScope s_Namer___init__) := ⟨rfl, rfl, rfl, by decide +kernel, rfl, by decide +kernel, by decide +kernel⟩
abbrev s_Namer_base_of : Stmt := inClass (top 24) 1
abbrev lv_Namer_base_of : Nat := 1
abbrev n_Namer_base_of : List Str := ["self", "text"]
abbrev p_Namer_base_of : List Str := ["self", "text"]
theorem sc_Namer_base_of : FnScope n_Namer_base_of p_Namer_base_of (L2.defScope s_Namer_base_of) := ⟨rfl, rfl, rfl, by decide +kernel, rfl, by decide +kernel, by decide +kernel⟩
abbrev s_Namer_numbered : Stmt := inClass (top 24) 2
abbrev lv_Namer_numbered : Nat := 1
abbrev n_Namer_numbered : List Str := ["self", "base", "number", "ending"]
abbrev p_Namer_numbered : List Str := ["self", "base", "number"]
theorem sc_Namer_numbered : FnScope n_Namer_numbered p_Namer_numbered (L2.defScope s_Namer_numbered) := ⟨rfl, rfl, rfl, by decide +kernel, rfl, by decide +kernel, by decide +kernel⟩
abbrev s_Namer_name_for : Stmt := inClass (top 24) 3
abbrev lv_Namer_name_for : Nat := 2
abbrev n_Namer_name_for : List Str := ["self", "text", "there", "base", "alike", "taken", "number", "mate", "name"]
abbrev p_Namer_name_for : List Str := ["self", "text", "there"]
theorem sc_Namer_name_for : FnScope n_Namer_name_for p_Namer_name_for (L2.defScope s_Namer_name_for) := ⟨rfl, rfl, rfl, by decide +kernel, rfl, by decide +kernel, by decide +kernel⟩
abbrev s_Namer___eq__ : Stmt := inClass (top 24) 4
abbrev lv_Namer___eq__ : Nat := 5
abbrev n_Namer___eq__ : List Str := ["self", "other"]
abbrev p_Namer___eq__ : List Str := ["self", "other"]
theorem sc_Namer___eq__ : FnScope n_Namer___eq__ p_Namer___eq__ (L2.defScope s_Namer___eq__) := ⟨rfl, rfl, rfl, by decide +kernel, rfl, by decide +kernel, by decide +kernel⟩
abbrev s_Namer___repr__ : Stmt := inClass (top 24) 5
abbrev lv_Namer___repr__ : Nat := 1
abbrev n_Namer___repr__ : List Str := ["self"]
abbrev p_Namer___repr__ : List Str := ["self"]
theorem sc_Namer___repr__ : FnScope n_Namer___repr__ p_Namer___repr__ (L2.defScope s_Namer___repr__) := ⟨rfl, rfl, rfl, by decide +kernel, rfl, by decide +kernel, by decide +kernel⟩
abbrev s_check_namer : Stmt := top 25
abbrev lv_check_namer : Nat := 5
abbrev n_check_namer : List Str := ["value"]
abbrev p_check_namer : List Str := ["value"]
theorem sc_check_namer : FnScope n_check_namer p_check_namer (L2.defScope s_check_namer) := ⟨rfl, rfl, rfl, by decide +kernel, rfl, by decide +kernel, by decide +kernel⟩
abbrev s_check_texts : Stmt := top 26
abbrev lv_check_texts : Nat := 3
abbrev n_check_texts : List Str := ["value", "index", "text"]
abbrev p_check_texts : List Str := ["value"]
theorem sc_check_texts : FnScope n_check_texts p_check_texts (L2.defScope s_check_texts) := ⟨rfl, rfl, rfl, by decide +kernel, rfl, by decide +kernel, by decide +kernel⟩
abbrev s_names_of : Stmt := top 27
abbrev lv_names_of : Nat := 3
abbrev n_names_of : List Str := ["namer", "texts", "there", "text", "name"]
abbrev p_names_of : List Str := ["namer", "texts"]
theorem sc_names_of : FnScope n_names_of p_names_of (L2.defScope s_names_of) := ⟨rfl, rfl, rfl, by decide +kernel, rfl, by decide +kernel, by decide +kernel⟩
abbrev s_names : Stmt := top 28
abbrev lv_names : Nat := 6
abbrev n_names : List Str := ["namer", "texts"]
abbrev p_names : List Str := ["namer", "texts"]
theorem sc_names : FnScope n_names p_names (L2.defScope s_names) := ⟨rfl, rfl, rfl, by decide +kernel, rfl, by decide +kernel, by decide +kernel⟩
abbrev s_check_number : Stmt := top 30
abbrev lv_check_number : Nat := 3
abbrev n_check_number : List Str := ["value"]
abbrev p_check_number : List Str := ["value"]
theorem sc_check_number : FnScope n_check_number p_check_number (L2.defScope s_check_number) := ⟨rfl, rfl, rfl, by decide +kernel, rfl, by decide +kernel, by decide +kernel⟩
abbrev s_Shortener___init__ : Stmt := inClass (top 31) 0
abbrev lv_Shortener___init__ : Nat := 4
abbrev n_Shortener___init__ : List Str := ["self", "limit", "head", "tail", "mark"]
abbrev p_Shortener___init__ : List Str := ["self", "limit", "head", "tail", "mark"]
theorem sc_Shortener___init__ : FnScope n_Shortener___init__ p_Shortener___init__ (L2.defScope s_Shortener___init__) := ⟨rfl, rfl, rfl, by decide +kernel, rfl, by decide +kernel, by decide +kernel⟩
abbrev s_Shortener_cut : Stmt := inClass (top 31) 1
abbrev lv_Shortener_cut : Nat := 1
abbrev n_Shortener_cut : List Str := ["self", "signs"]
abbrev p_Shortener_cut : List Str := ["self", "signs"]
theorem sc_Shortener_cut : FnScope n_Shortener_cut p_Shortener_cut (L2.defScope s_Shortener_cut) := ⟨rfl, rfl, rfl, by decide +kernel, rfl, by decide +kernel, by decide +kernel⟩
abbrev s_Shortener___eq__ : Stmt := inClass (top 31) 2
abbrev lv_Shortener___eq__ : Nat := 6
abbrev n_Shortener___eq__ : List Str := ["self", "other"]
abbrev p_Shortener___eq__ : List Str := ["self", "other"]
theorem sc_Shortener___eq__ : FnScope n_Shortener___eq__ p_Shortener___eq__ (L2.defScope s_Shortener___eq__) := ⟨rfl, rfl, rfl, by decide +kernel, rfl, by decide +kernel, by decide +kernel⟩
abbrev s_Shortener___repr__ : Stmt := inClass (top 31) 3
abbrev lv_Shortener___repr__ : Nat := 1
abbrev n_Shortener___repr__ : List Str := ["self"]
abbrev p_Shortener___repr__ : List Str := ["self"]
theorem sc_Shortener___repr__ : FnScope n_Shortener___repr__ p_Shortener___repr__ (L2.defScope s_Shortener___repr__) := ⟨rfl, rfl, rfl, by decide +kernel, rfl, by decide +kernel, by decide +kernel⟩
abbrev s_check_row : Stmt := top 32
abbrev lv_check_row : Nat := 6
abbrev n_check_row : List Str := ["value", "index", "shortener"]
abbrev p_check_row : List Str := ["value"]
theorem sc_check_row : FnScope n_check_row p_check_row (L2.defScope s_check_row) := ⟨rfl, rfl, rfl, by decide +kernel, rfl, by decide +kernel, by decide +kernel⟩
abbrev s_cut_by : Stmt := top 33
abbrev lv_cut_by : Nat := 2
abbrev n_cut_by : List Str := ["row", "signs", "shortener"]
abbrev p_cut_by : List Str := ["row", "signs"]
theorem sc_cut_by : FnScope n_cut_by p_cut_by (L2.defScope s_cut_by) := ⟨rfl, rfl, rfl, by decide +kernel, rfl, by decide +kernel, by decide +kernel⟩
abbrev s_show : Stmt := top 34
abbrev lv_show : Nat := 7
abbrev n_show : List Str := ["row", "text"]
abbrev p_show : List Str := ["row", "text"]
theorem sc_show : FnScope n_show p_show (L2.defScope s_show) := ⟨rfl, rfl, rfl, by decide +kernel, rfl, by decide +kernel, by decide +kernel⟩
abbrev s__law_source : Stmt := top 36
abbrev lv__law_source : Nat := 1
abbrev n__law_source : List Str := ["_law_cells", "_law_turn", "_law_mixed", "_law_cell", "_law_own"]
abbrev p__law_source : List Str := ["_law_cells", "_law_turn"]
theorem sc__law_source : FnScope n__law_source p__law_source (L2.defScope s__law_source) := ⟨rfl, rfl, rfl, by decide +kernel, rfl, by decide +kernel, by decide +kernel⟩
abbrev s__law_draw : Stmt := top 37
abbrev lv__law_draw : Nat := 1
abbrev n__law_draw : List Str := ["_law_source_here", "_law_size", "_law_digit", "_law_state", "_law_factor"]
abbrev p__law_draw : List Str := ["_law_source_here", "_law_size"]
theorem sc__law_draw : FnScope n__law_draw p__law_draw (L2.defScope s__law_draw) := ⟨rfl, rfl, rfl, by decide +kernel, rfl, by decide +kernel, by decide +kernel⟩
abbrev s__law_one : Stmt := top 38
abbrev lv__law_one : Nat := 2
abbrev n__law_one : List Str := ["_law_source_here", "_law_some"]
abbrev p__law_one : List Str := ["_law_source_here", "_law_some"]
theorem sc__law_one : FnScope n__law_one p__law_one (L2.defScope s__law_one) := ⟨rfl, rfl, rfl, by decide +kernel, rfl, by decide +kernel, by decide +kernel⟩
abbrev s__law_stem : Stmt := top 39
abbrev lv__law_stem : Nat := 2
abbrev n__law_stem : List Str := ["_law_source_here", "_law_size", "_law_abc", "_law_k"]
abbrev p__law_stem : List Str := ["_law_source_here", "_law_size"]
theorem sc__law_stem : FnScope n__law_stem p__law_stem (L2.defScope s__law_stem) := ⟨rfl, rfl, rfl, by decide +kernel, rfl, by decide +kernel, by decide +kernel⟩
abbrev s__law_word : Stmt := top 40
abbrev lv__law_word : Nat := 3
abbrev n__law_word : List Str := ["_law_source_here", "_law_stems", "_law_way", "_law_stem_here"]
abbrev p__law_word : List Str := ["_law_source_here", "_law_stems"]
theorem sc__law_word : FnScope n__law_word p__law_word (L2.defScope s__law_word) := ⟨rfl, rfl, rfl, by decide +kernel, rfl, by decide +kernel, by decide +kernel⟩
abbrev s__law_pair_right : Stmt := top 41
abbrev lv__law_pair_right : Nat := 8
abbrev n__law_pair_right : List Str := ["_law_size", "_law_first", "_law_second", "_law_whole", "_law_short", "_law_one_base", "_law_two_base", "_law_sort", "_law_space", "_law_told", "_law_ahead"]
abbrev p__law_pair_right : List Str := ["_law_size", "_law_first", "_law_second"]
theorem sc__law_pair_right : FnScope n__law_pair_right p__law_pair_right (L2.defScope s__law_pair_right) := ⟨rfl, rfl, rfl, by decide +kernel, rfl, by decide +kernel, by decide +kernel⟩
abbrev s__law_right : Stmt := top 42
abbrev lv__law_right : Nat := 9
abbrev n__law_right : List Str := ["_law_source_here", "_law_stems", "_law_size", "_law_line", "_law_k"]
abbrev p__law_right : List Str := ["_law_source_here"]
theorem sc__law_right : FnScope n__law_right p__law_right (L2.defScope s__law_right) := ⟨rfl, rfl, rfl, by decide +kernel, rfl, by decide +kernel, by decide +kernel⟩
abbrev s_law : Stmt := top 43
abbrev lv_law : Nat := 10
abbrev n_law : List Str := ["_law_script", "_law_k"]
abbrev p_law : List Str := ["_law_script"]
theorem sc_law : FnScope n_law p_law (L2.defScope s_law) := ⟨rfl, rfl, rfl, by decide +kernel, rfl, by decide +kernel, by decide +kernel⟩
structure Tx (K : PySem.W.Frag) (mg : Str → Option Value) where
  n_abs : mg "abs" = none
  n_all : mg "all" = none
  n_bool : mg "bool" = none
  n_divmod : mg "divmod" = none
  n_enumerate : mg "enumerate" = none
  n_int : mg "int" = none
  n_isinstance : mg "isinstance" = none
  n_len : mg "len" = none
  n_list : mg "list" = none
  n_max : mg "max" = none
  n_min : mg "min" = none
  n_range : mg "range" = none
  n_str : mg "str" = none
  n_tuple : mg "tuple" = none
  k_MOST_SIGNS : ∃ u, mg "MOST_SIGNS" = some u ∧ RelV (.int 40) u
  k_MOST_MARK : ∃ u, mg "MOST_MARK" = some u ∧ RelV (.int 3) u
  k_MOST_ROW : ∃ u, mg "MOST_ROW" = some u ∧ RelV (.int 4) u
  k_MOST_TEXT : ∃ u, mg "MOST_TEXT" = some u ∧ RelV (.int 200) u
  k_MOST_LISTED : ∃ u, mg "MOST_LISTED" = some u ∧ RelV (.int 6) u
  k_SIGNS : ∃ u, mg "SIGNS" = some u ∧ RelV (.str (PySem.Str.ofString ".0123456789abcdefghijklmnopqrstuvwxyz~")) u
  a_RULES : Addr
  m_RULES : mg "RULES" = some (.ref a_RULES)
  q_RULES : ∀ H : Hp, SqT K H a_RULES [.str (PySem.Str.ofString "count"), .str (PySem.Str.ofString "free"), .str (PySem.Str.ofString "tight")]
  k_LEAST_WIDTH : ∃ u, mg "LEAST_WIDTH" = some u ∧ RelV (.int 6) u
  k_FIRST_NUMBER : ∃ u, mg "FIRST_NUMBER" = some u ∧ RelV (.int 2) u
  C_Namer : Addr
  m_Namer : mg "Namer" = some (.ref C_Namer)
  c_Namer : Cls K C_Namer
  i_Namer : C8.InsC K C_Namer
  na_Namer_rule : NoAttr K C_Namer "rule"
  na_Namer_width : NoAttr K C_Namer "width"
  f_Namer___init__ : Addr
  d_Namer___init__ : FuncData
  F_Namer___init__ : L2.Fun K "__init__" "Namer.__init__" s_Namer___init__ f_Namer___init__ d_Namer___init__
  b_Namer___init__ : Binds K d_Namer___init__ p_Namer___init__ []
  M_Namer : Mk K C_Namer f_Namer___init__
  f_Namer_base_of : Addr
  d_Namer_base_of : FuncData
  F_Namer_base_of : L2.Fun K "base_of" "Namer.base_of" s_Namer_base_of f_Namer_base_of d_Namer_base_of
  b_Namer_base_of : Binds K d_Namer_base_of p_Namer_base_of []
  t_Namer_base_of : Meth K C_Namer "base_of" f_Namer_base_of
  f_Namer_numbered : Addr
  d_Namer_numbered : FuncData
  F_Namer_numbered : L2.Fun K "numbered" "Namer.numbered" s_Namer_numbered f_Namer_numbered d_Namer_numbered
  b_Namer_numbered : Binds K d_Namer_numbered p_Namer_numbered []
  t_Namer_numbered : Meth K C_Namer "numbered" f_Namer_numbered
  f_Namer_name_for : Addr
  d_Namer_name_for : FuncData
  F_Namer_name_for : L2.Fun K "name_for" "Namer.name_for" s_Namer_name_for f_Namer_name_for d_Namer_name_for
  b_Namer_name_for : Binds K d_Namer_name_for p_Namer_name_for []
  t_Namer_name_for : Meth K C_Namer "name_for" f_Namer_name_for
  f_Namer___eq__ : Addr
  d_Namer___eq__ : FuncData
  F_Namer___eq__ : L2.Fun K "__eq__" "Namer.__eq__" s_Namer___eq__ f_Namer___eq__ d_Namer___eq__
  b_Namer___eq__ : Binds K d_Namer___eq__ p_Namer___eq__ []
  t_Namer___eq__ : Meth K C_Namer "__eq__" f_Namer___eq__
  f_Namer___repr__ : Addr
  d_Namer___repr__ : FuncData
  F_Namer___repr__ : L2.Fun K "__repr__" "Namer.__repr__" s_Namer___repr__ f_Namer___repr__ d_Namer___repr__
  b_Namer___repr__ : Binds K d_Namer___repr__ p_Namer___repr__ []
  t_Namer___repr__ : Meth K C_Namer "__repr__" f_Namer___repr__
  C_Shortener : Addr
  m_Shortener : mg "Shortener" = some (.ref C_Shortener)
  c_Shortener : Cls K C_Shortener
  i_Shortener : C8.InsC K C_Shortener
  na_Shortener_limit : NoAttr K C_Shortener "limit"
  na_Shortener_head : NoAttr K C_Shortener "head"
  na_Shortener_tail : NoAttr K C_Shortener "tail"
  na_Shortener_mark : NoAttr K C_Shortener "mark"
  na_Shortener_told : NoAttr K C_Shortener "told"
  f_Shortener___init__ : Addr
  d_Shortener___init__ : FuncData
  F_Shortener___init__ : L2.Fun K "__init__" "Shortener.__init__" s_Shortener___init__ f_Shortener___init__ d_Shortener___init__
  b_Shortener___init__ : Binds K d_Shortener___init__ p_Shortener___init__ []
  M_Shortener : Mk K C_Shortener f_Shortener___init__
  f_Shortener_cut : Addr
  d_Shortener_cut : FuncData
  F_Shortener_cut : L2.Fun K "cut" "Shortener.cut" s_Shortener_cut f_Shortener_cut d_Shortener_cut
  b_Shortener_cut : Binds K d_Shortener_cut p_Shortener_cut []
  t_Shortener_cut : Meth K C_Shortener "cut" f_Shortener_cut
  f_Shortener___eq__ : Addr
  d_Shortener___eq__ : FuncData
  F_Shortener___eq__ : L2.Fun K "__eq__" "Shortener.__eq__" s_Shortener___eq__ f_Shortener___eq__ d_Shortener___eq__
  b_Shortener___eq__ : Binds K d_Shortener___eq__ p_Shortener___eq__ []
  t_Shortener___eq__ : Meth K C_Shortener "__eq__" f_Shortener___eq__
  f_Shortener___repr__ : Addr
  d_Shortener___repr__ : FuncData
  F_Shortener___repr__ : L2.Fun K "__repr__" "Shortener.__repr__" s_Shortener___repr__ f_Shortener___repr__ d_Shortener___repr__
  b_Shortener___repr__ : Binds K d_Shortener___repr__ p_Shortener___repr__ []
  t_Shortener___repr__ : Meth K C_Shortener "__repr__" f_Shortener___repr__
  f_is_integer : Addr
  d_is_integer : FuncData
  F_is_integer : L2.Fun K "is_integer" "is_integer" s_is_integer f_is_integer d_is_integer
  b_is_integer : Binds K d_is_integer p_is_integer []
  m_is_integer : mg "is_integer" = some (.ref f_is_integer)
  f_is_text : Addr
  d_is_text : FuncData
  F_is_text : L2.Fun K "is_text" "is_text" s_is_text f_is_text d_is_text
  b_is_text : Binds K d_is_text p_is_text []
  m_is_text : mg "is_text" = some (.ref f_is_text)
  f_check_text : Addr
  d_check_text : FuncData
  F_check_text : L2.Fun K "check_text" "check_text" s_check_text f_check_text d_check_text
  b_check_text : Binds K d_check_text p_check_text []
  m_check_text : mg "check_text" = some (.ref f_check_text)
  f_check_namer : Addr
  d_check_namer : FuncData
  F_check_namer : L2.Fun K "check_namer" "check_namer" s_check_namer f_check_namer d_check_namer
  b_check_namer : Binds K d_check_namer p_check_namer []
  m_check_namer : mg "check_namer" = some (.ref f_check_namer)
  f_check_texts : Addr
  d_check_texts : FuncData
  F_check_texts : L2.Fun K "check_texts" "check_texts" s_check_texts f_check_texts d_check_texts
  b_check_texts : Binds K d_check_texts p_check_texts []
  m_check_texts : mg "check_texts" = some (.ref f_check_texts)
  f_names_of : Addr
  d_names_of : FuncData
  F_names_of : L2.Fun K "names_of" "names_of" s_names_of f_names_of d_names_of
  b_names_of : Binds K d_names_of p_names_of []
  m_names_of : mg "names_of" = some (.ref f_names_of)
  f_names : Addr
  d_names : FuncData
  F_names : L2.Fun K "names" "names" s_names f_names d_names
  b_names : Binds K d_names p_names []
  m_names : mg "names" = some (.ref f_names)
  f_check_number : Addr
  d_check_number : FuncData
  F_check_number : L2.Fun K "check_number" "check_number" s_check_number f_check_number d_check_number
  b_check_number : Binds K d_check_number p_check_number []
  m_check_number : mg "check_number" = some (.ref f_check_number)
  f_check_row : Addr
  d_check_row : FuncData
  F_check_row : L2.Fun K "check_row" "check_row" s_check_row f_check_row d_check_row
  b_check_row : Binds K d_check_row p_check_row []
  m_check_row : mg "check_row" = some (.ref f_check_row)
  f_cut_by : Addr
  d_cut_by : FuncData
  F_cut_by : L2.Fun K "cut_by" "cut_by" s_cut_by f_cut_by d_cut_by
  b_cut_by : Binds K d_cut_by p_cut_by []
  m_cut_by : mg "cut_by" = some (.ref f_cut_by)
  f_show : Addr
  d_show : FuncData
  F_show : L2.Fun K "show" "show" s_show f_show d_show
  b_show : Binds K d_show p_show []
  m_show : mg "show" = some (.ref f_show)
  f__law_source : Addr
  d__law_source : FuncData
  F__law_source : L2.Fun K "_law_source" "_law_source" s__law_source f__law_source d__law_source
  b__law_source : Binds K d__law_source p__law_source []
  m__law_source : mg "_law_source" = some (.ref f__law_source)
  f__law_draw : Addr
  d__law_draw : FuncData
  F__law_draw : L2.Fun K "_law_draw" "_law_draw" s__law_draw f__law_draw d__law_draw
  b__law_draw : Binds K d__law_draw p__law_draw []
  m__law_draw : mg "_law_draw" = some (.ref f__law_draw)
  f__law_one : Addr
  d__law_one : FuncData
  F__law_one : L2.Fun K "_law_one" "_law_one" s__law_one f__law_one d__law_one
  b__law_one : Binds K d__law_one p__law_one []
  m__law_one : mg "_law_one" = some (.ref f__law_one)
  f__law_stem : Addr
  d__law_stem : FuncData
  F__law_stem : L2.Fun K "_law_stem" "_law_stem" s__law_stem f__law_stem d__law_stem
  b__law_stem : Binds K d__law_stem p__law_stem []
  m__law_stem : mg "_law_stem" = some (.ref f__law_stem)
  f__law_word : Addr
  d__law_word : FuncData
  F__law_word : L2.Fun K "_law_word" "_law_word" s__law_word f__law_word d__law_word
  b__law_word : Binds K d__law_word p__law_word []
  m__law_word : mg "_law_word" = some (.ref f__law_word)
  f__law_pair_right : Addr
  d__law_pair_right : FuncData
  F__law_pair_right : L2.Fun K "_law_pair_right" "_law_pair_right" s__law_pair_right f__law_pair_right d__law_pair_right
  b__law_pair_right : Binds K d__law_pair_right p__law_pair_right []
  m__law_pair_right : mg "_law_pair_right" = some (.ref f__law_pair_right)
  f__law_right : Addr
  d__law_right : FuncData
  F__law_right : L2.Fun K "_law_right" "_law_right" s__law_right f__law_right d__law_right
  b__law_right : Binds K d__law_right p__law_right []
  m__law_right : mg "_law_right" = some (.ref f__law_right)
  f_law : Addr
  d_law : FuncData
  F_law : L2.Fun K "law" "law" s_law f_law d_law
  b_law : Binds K d_law p_law []
  m_law : mg "law" = some (.ref f_law)
set_option maxHeartbeats 16000000 in
theorem all_mk {K : PySem.W.Frag} {h : Heap} {mg : Str → Option Value} (X : K.In h) (G : h.Ns mainGlobals mg)
    {f_law : Addr} {oc_law kV_law dc_law pm_law cd_law ct_law : Value} {od_law an_law : Option Addr} {sl_law : Array (Option Value)}
    {f__law_right : Addr} {oc__law_right kV__law_right dc__law_right pm__law_right cd__law_right ct__law_right : Value} {od__law_right an__law_right : Option Addr} {sl__law_right : Array (Option Value)}
    {f__law_pair_right : Addr} {oc__law_pair_right kV__law_pair_right dc__law_pair_right pm__law_pair_right cd__law_pair_right ct__law_pair_right : Value} {od__law_pair_right an__law_pair_right : Option Addr} {sl__law_pair_right : Array (Option Value)}
    {f__law_word : Addr} {oc__law_word kV__law_word dc__law_word pm__law_word cd__law_word ct__law_word : Value} {od__law_word an__law_word : Option Addr} {sl__law_word : Array (Option Value)}
    {f__law_stem : Addr} {oc__law_stem kV__law_stem dc__law_stem pm__law_stem cd__law_stem ct__law_stem : Value} {od__law_stem an__law_stem : Option Addr} {sl__law_stem : Array (Option Value)}
    {f__law_one : Addr} {oc__law_one kV__law_one dc__law_one pm__law_one cd__law_one ct__law_one : Value} {od__law_one an__law_one : Option Addr} {sl__law_one : Array (Option Value)}
    {f__law_draw : Addr} {oc__law_draw kV__law_draw dc__law_draw pm__law_draw cd__law_draw ct__law_draw : Value} {od__law_draw an__law_draw : Option Addr} {sl__law_draw : Array (Option Value)}
    {f__law_source : Addr} {oc__law_source kV__law_source dc__law_source pm__law_source cd__law_source ct__law_source : Value} {od__law_source an__law_source : Option Addr} {sl__law_source : Array (Option Value)}
    {f_show : Addr} {oc_show kV_show dc_show pm_show cd_show ct_show : Value} {od_show an_show : Option Addr} {sl_show : Array (Option Value)}
    {f_cut_by : Addr} {oc_cut_by kV_cut_by dc_cut_by pm_cut_by cd_cut_by ct_cut_by : Value} {od_cut_by an_cut_by : Option Addr} {sl_cut_by : Array (Option Value)}
    {f_check_row : Addr} {oc_check_row kV_check_row dc_check_row pm_check_row cd_check_row ct_check_row : Value} {od_check_row an_check_row : Option Addr} {sl_check_row : Array (Option Value)}
    {f_check_number : Addr} {oc_check_number kV_check_number dc_check_number pm_check_number cd_check_number ct_check_number : Value} {od_check_number an_check_number : Option Addr} {sl_check_number : Array (Option Value)}
    {f_names : Addr} {oc_names kV_names dc_names pm_names cd_names ct_names : Value} {od_names an_names : Option Addr} {sl_names : Array (Option Value)}
    {f_names_of : Addr} {oc_names_of kV_names_of dc_names_of pm_names_of cd_names_of ct_names_of : Value} {od_names_of an_names_of : Option Addr} {sl_names_of : Array (Option Value)}
    {f_check_texts : Addr} {oc_check_texts kV_check_texts dc_check_texts pm_check_texts cd_check_texts ct_check_texts : Value} {od_check_texts an_check_texts : Option Addr} {sl_check_texts : Array (Option Value)}
    {f_check_namer : Addr} {oc_check_namer kV_check_namer dc_check_namer pm_check_namer cd_check_namer ct_check_namer : Value} {od_check_namer an_check_namer : Option Addr} {sl_check_namer : Array (Option Value)}
    {f_check_text : Addr} {oc_check_text kV_check_text dc_check_text pm_check_text cd_check_text ct_check_text : Value} {od_check_text an_check_text : Option Addr} {sl_check_text : Array (Option Value)}
    {f_is_text : Addr} {oc_is_text kV_is_text dc_is_text pm_is_text cd_is_text ct_is_text : Value} {od_is_text an_is_text : Option Addr} {sl_is_text : Array (Option Value)}
    {f_is_integer : Addr} {oc_is_integer kV_is_integer dc_is_integer pm_is_integer cd_is_integer ct_is_integer : Value} {od_is_integer an_is_integer : Option Addr} {sl_is_integer : Array (Option Value)}
    {f_Shortener___repr__ : Addr} {oc_Shortener___repr__ kV_Shortener___repr__ dc_Shortener___repr__ pm_Shortener___repr__ cd_Shortener___repr__ ct_Shortener___repr__ : Value} {od_Shortener___repr__ an_Shortener___repr__ : Option Addr} {sl_Shortener___repr__ : Array (Option Value)}
    {f_Shortener___eq__ : Addr} {oc_Shortener___eq__ kV_Shortener___eq__ dc_Shortener___eq__ pm_Shortener___eq__ cd_Shortener___eq__ ct_Shortener___eq__ : Value} {od_Shortener___eq__ an_Shortener___eq__ : Option Addr} {sl_Shortener___eq__ : Array (Option Value)}
    {f_Shortener_cut : Addr} {oc_Shortener_cut kV_Shortener_cut dc_Shortener_cut pm_Shortener_cut cd_Shortener_cut ct_Shortener_cut : Value} {od_Shortener_cut an_Shortener_cut : Option Addr} {sl_Shortener_cut : Array (Option Value)}
    {f_Shortener___init__ : Addr} {oc_Shortener___init__ kV_Shortener___init__ dc_Shortener___init__ pm_Shortener___init__ cd_Shortener___init__ ct_Shortener___init__ : Value} {od_Shortener___init__ an_Shortener___init__ : Option Addr} {sl_Shortener___init__ : Array (Option Value)}
    {C_Shortener : Addr}
    {f_Namer___repr__ : Addr} {oc_Namer___repr__ kV_Namer___repr__ dc_Namer___repr__ pm_Namer___repr__ cd_Namer___repr__ ct_Namer___repr__ : Value} {od_Namer___repr__ an_Namer___repr__ : Option Addr} {sl_Namer___repr__ : Array (Option Value)}
    {f_Namer___eq__ : Addr} {oc_Namer___eq__ kV_Namer___eq__ dc_Namer___eq__ pm_Namer___eq__ cd_Namer___eq__ ct_Namer___eq__ : Value} {od_Namer___eq__ an_Namer___eq__ : Option Addr} {sl_Namer___eq__ : Array (Option Value)}
    {f_Namer_name_for : Addr} {oc_Namer_name_for kV_Namer_name_for dc_Namer_name_for pm_Namer_name_for cd_Namer_name_for ct_Namer_name_for : Value} {od_Namer_name_for an_Namer_name_for : Option Addr} {sl_Namer_name_for : Array (Option Value)}
    {f_Namer_numbered : Addr} {oc_Namer_numbered kV_Namer_numbered dc_Namer_numbered pm_Namer_numbered cd_Namer_numbered ct_Namer_numbered : Value} {od_Namer_numbered an_Namer_numbered : Option Addr} {sl_Namer_numbered : Array (Option Value)}
    {f_Namer_base_of : Addr} {oc_Namer_base_of kV_Namer_base_of dc_Namer_base_of pm_Namer_base_of cd_Namer_base_of ct_Namer_base_of : Value} {od_Namer_base_of an_Namer_base_of : Option Addr} {sl_Namer_base_of : Array (Option Value)}
    {f_Namer___init__ : Addr} {oc_Namer___init__ kV_Namer___init__ dc_Namer___init__ pm_Namer___init__ cd_Namer___init__ ct_Namer___init__ : Value} {od_Namer___init__ an_Namer___init__ : Option Addr} {sl_Namer___init__ : Array (Option Value)}
    {C_Namer : Addr}
    {tk_FIRST_NUMBER : Tok}
    {tk_LEAST_WIDTH : Tok}
    {ad_RULES : Addr} {od_RULES : Option Addr} {nn_RULES : Nat} {sl_RULES : Array (Option Value)} {tk_RULES_0 tk_RULES_1 tk_RULES_2 : Tok}
    {tk_SIGNS : Tok}
    {tk_MOST_LISTED : Tok}
    {tk_MOST_TEXT : Tok}
    {tk_MOST_ROW : Tok}
    {tk_MOST_MARK : Tok}
    {tk_MOST_SIGNS : Tok}
    (x_n_abs : PySem.W.nsIn K mainGlobals "abs" = some none)
    (x_n_all : PySem.W.nsIn K mainGlobals "all" = some none)
    (x_n_bool : PySem.W.nsIn K mainGlobals "bool" = some none)
    (x_n_divmod : PySem.W.nsIn K mainGlobals "divmod" = some none)
    (x_n_enumerate : PySem.W.nsIn K mainGlobals "enumerate" = some none)
    (x_n_int : PySem.W.nsIn K mainGlobals "int" = some none)
    (x_n_isinstance : PySem.W.nsIn K mainGlobals "isinstance" = some none)
    (x_n_len : PySem.W.nsIn K mainGlobals "len" = some none)
    (x_n_list : PySem.W.nsIn K mainGlobals "list" = some none)
    (x_n_max : PySem.W.nsIn K mainGlobals "max" = some none)
    (x_n_min : PySem.W.nsIn K mainGlobals "min" = some none)
    (x_n_range : PySem.W.nsIn K mainGlobals "range" = some none)
    (x_n_str : PySem.W.nsIn K mainGlobals "str" = some none)
    (x_n_tuple : PySem.W.nsIn K mainGlobals "tuple" = some none)
    (x_k_MOST_SIGNS : PySem.W.nsIn K mainGlobals "MOST_SIGNS" = some (some (.int 40 tk_MOST_SIGNS)))
    (x_k_MOST_MARK : PySem.W.nsIn K mainGlobals "MOST_MARK" = some (some (.int 3 tk_MOST_MARK)))
    (x_k_MOST_ROW : PySem.W.nsIn K mainGlobals "MOST_ROW" = some (some (.int 4 tk_MOST_ROW)))
    (x_k_MOST_TEXT : PySem.W.nsIn K mainGlobals "MOST_TEXT" = some (some (.int 200 tk_MOST_TEXT)))
    (x_k_MOST_LISTED : PySem.W.nsIn K mainGlobals "MOST_LISTED" = some (some (.int 6 tk_MOST_LISTED)))
    (x_k_SIGNS : PySem.W.nsIn K mainGlobals "SIGNS" = some (some (.str (PySem.Str.ofString ".0123456789abcdefghijklmnopqrstuvwxyz~") tk_SIGNS)))
    (x_m_RULES : PySem.W.nsIn K mainGlobals "RULES" = some (some (.ref ad_RULES)))
    (x_q_RULES : K.lookup ad_RULES = some ⟨.type "tuple", od_RULES, .seq #[.str (PySem.Str.ofString "count") tk_RULES_0, .str (PySem.Str.ofString "free") tk_RULES_1, .str (PySem.Str.ofString "tight") tk_RULES_2] nn_RULES, sl_RULES⟩)
    (x_k_LEAST_WIDTH : PySem.W.nsIn K mainGlobals "LEAST_WIDTH" = some (some (.int 6 tk_LEAST_WIDTH)))
    (x_k_FIRST_NUMBER : PySem.W.nsIn K mainGlobals "FIRST_NUMBER" = some (some (.int 2 tk_FIRST_NUMBER)))
    (x_C_Namer : PySem.W.nsIn K mainGlobals "Namer" = some (some (.ref C_Namer)))
    (x_pg_Namer : PySem.W.plainGet K C_Namer Str.empty = true)
    (x_hd_Namer : PySem.W.hasDictIn K C_Namer = true)
    (x_po_Namer : PySem.W.plainOver K C_Namer = true)
    (x_sa_Namer : PySem.W.findIn K (.ref C_Namer) "__setattr__" = some (some (.builtin "object.__setattr__")))
    (x_mk_Namer : PySem.W.makesIn K C_Namer = true)
    (x_kc_Namer : PySem.W.keepIn K (.ref C_Namer) = true)
    (x_ha_Namer : PySem.W.findIn K (.ref C_Namer) "__class__" = some (some (.builtin "object.__class__")))
    (x_hn_Namer : PySem.W.specialIn K (.builtin "object.__class__") "__get__" = some (some (.builtin "getset_descriptor.__get__")))
    (x_ht_Namer : PySem.W.takesIn K (.builtin "object.__class__") = some true)
    (x_hm_Namer : PySem.W.mroIn K C_Namer (.type "object") = some true)
    (x_me_Namer : PySem.W.kitOne K (.ref C_Namer) (.ref C_Namer) = some true)
    (x_na_Namer_rule : PySem.W.findIn K (.ref C_Namer) "rule" = some none)
    (x_na_Namer_width : PySem.W.findIn K (.ref C_Namer) "width" = some none)
    (x_a_Namer___init__ : PySem.W.findIn K (.ref C_Namer) "__init__" = some (some (.ref f_Namer___init__)))
    (x_i_Namer___init__ : PySem.W.isFn K (.ref f_Namer___init__) = true)
    (x_l_Namer___init__ : K.lookup f_Namer___init__ = some ⟨oc_Namer___init__, od_Namer___init__, .func (PySem.W.fnOf "__init__" "Namer.__init__" (L2.defArgs s_Namer___init__) (L2.defBody s_Namer___init__) (L2.defScope s_Namer___init__) .none kV_Namer___init__ dc_Namer___init__ pm_Namer___init__ an_Namer___init__ cd_Namer___init__ ct_Namer___init__), sl_Namer___init__⟩)
    (x_c_Namer___init__ : PySem.W.codeIn K cd_Namer___init__ "Namer.__init__" = true)
    (x_k_Namer___init__ : PySem.W.keepIn K (.ref f_Namer___init__) = true)
    (x_a_Namer_base_of : PySem.W.findIn K (.ref C_Namer) "base_of" = some (some (.ref f_Namer_base_of)))
    (x_i_Namer_base_of : PySem.W.isFn K (.ref f_Namer_base_of) = true)
    (x_l_Namer_base_of : K.lookup f_Namer_base_of = some ⟨oc_Namer_base_of, od_Namer_base_of, .func (PySem.W.fnOf "base_of" "Namer.base_of" (L2.defArgs s_Namer_base_of) (L2.defBody s_Namer_base_of) (L2.defScope s_Namer_base_of) .none kV_Namer_base_of dc_Namer_base_of pm_Namer_base_of an_Namer_base_of cd_Namer_base_of ct_Namer_base_of), sl_Namer_base_of⟩)
    (x_c_Namer_base_of : PySem.W.codeIn K cd_Namer_base_of "Namer.base_of" = true)
    (x_k_Namer_base_of : PySem.W.keepIn K (.ref f_Namer_base_of) = true)
    (x_a_Namer_numbered : PySem.W.findIn K (.ref C_Namer) "numbered" = some (some (.ref f_Namer_numbered)))
    (x_i_Namer_numbered : PySem.W.isFn K (.ref f_Namer_numbered) = true)
    (x_l_Namer_numbered : K.lookup f_Namer_numbered = some ⟨oc_Namer_numbered, od_Namer_numbered, .func (PySem.W.fnOf "numbered" "Namer.numbered" (L2.defArgs s_Namer_numbered) (L2.defBody s_Namer_numbered) (L2.defScope s_Namer_numbered) .none kV_Namer_numbered dc_Namer_numbered pm_Namer_numbered an_Namer_numbered cd_Namer_numbered ct_Namer_numbered), sl_Namer_numbered⟩)
    (x_c_Namer_numbered : PySem.W.codeIn K cd_Namer_numbered "Namer.numbered" = true)
    (x_k_Namer_numbered : PySem.W.keepIn K (.ref f_Namer_numbered) = true)
    (x_a_Namer_name_for : PySem.W.findIn K (.ref C_Namer) "name_for" = some (some (.ref f_Namer_name_for)))
    (x_i_Namer_name_for : PySem.W.isFn K (.ref f_Namer_name_for) = true)
    (x_l_Namer_name_for : K.lookup f_Namer_name_for = some ⟨oc_Namer_name_for, od_Namer_name_for, .func (PySem.W.fnOf "name_for" "Namer.name_for" (L2.defArgs s_Namer_name_for) (L2.defBody s_Namer_name_for) (L2.defScope s_Namer_name_for) .none kV_Namer_name_for dc_Namer_name_for pm_Namer_name_for an_Namer_name_for cd_Namer_name_for ct_Namer_name_for), sl_Namer_name_for⟩)
    (x_c_Namer_name_for : PySem.W.codeIn K cd_Namer_name_for "Namer.name_for" = true)
    (x_k_Namer_name_for : PySem.W.keepIn K (.ref f_Namer_name_for) = true)
    (x_a_Namer___eq__ : PySem.W.findIn K (.ref C_Namer) "__eq__" = some (some (.ref f_Namer___eq__)))
    (x_i_Namer___eq__ : PySem.W.isFn K (.ref f_Namer___eq__) = true)
    (x_l_Namer___eq__ : K.lookup f_Namer___eq__ = some ⟨oc_Namer___eq__, od_Namer___eq__, .func (PySem.W.fnOf "__eq__" "Namer.__eq__" (L2.defArgs s_Namer___eq__) (L2.defBody s_Namer___eq__) (L2.defScope s_Namer___eq__) .none kV_Namer___eq__ dc_Namer___eq__ pm_Namer___eq__ an_Namer___eq__ cd_Namer___eq__ ct_Namer___eq__), sl_Namer___eq__⟩)
    (x_c_Namer___eq__ : PySem.W.codeIn K cd_Namer___eq__ "Namer.__eq__" = true)
    (x_k_Namer___eq__ : PySem.W.keepIn K (.ref f_Namer___eq__) = true)
    (x_a_Namer___repr__ : PySem.W.findIn K (.ref C_Namer) "__repr__" = some (some (.ref f_Namer___repr__)))
    (x_i_Namer___repr__ : PySem.W.isFn K (.ref f_Namer___repr__) = true)
    (x_l_Namer___repr__ : K.lookup f_Namer___repr__ = some ⟨oc_Namer___repr__, od_Namer___repr__, .func (PySem.W.fnOf "__repr__" "Namer.__repr__" (L2.defArgs s_Namer___repr__) (L2.defBody s_Namer___repr__) (L2.defScope s_Namer___repr__) .none kV_Namer___repr__ dc_Namer___repr__ pm_Namer___repr__ an_Namer___repr__ cd_Namer___repr__ ct_Namer___repr__), sl_Namer___repr__⟩)
    (x_c_Namer___repr__ : PySem.W.codeIn K cd_Namer___repr__ "Namer.__repr__" = true)
    (x_k_Namer___repr__ : PySem.W.keepIn K (.ref f_Namer___repr__) = true)
    (x_C_Shortener : PySem.W.nsIn K mainGlobals "Shortener" = some (some (.ref C_Shortener)))
    (x_pg_Shortener : PySem.W.plainGet K C_Shortener Str.empty = true)
    (x_hd_Shortener : PySem.W.hasDictIn K C_Shortener = true)
    (x_po_Shortener : PySem.W.plainOver K C_Shortener = true)
    (x_sa_Shortener : PySem.W.findIn K (.ref C_Shortener) "__setattr__" = some (some (.builtin "object.__setattr__")))
    (x_mk_Shortener : PySem.W.makesIn K C_Shortener = true)
    (x_kc_Shortener : PySem.W.keepIn K (.ref C_Shortener) = true)
    (x_ha_Shortener : PySem.W.findIn K (.ref C_Shortener) "__class__" = some (some (.builtin "object.__class__")))
    (x_hn_Shortener : PySem.W.specialIn K (.builtin "object.__class__") "__get__" = some (some (.builtin "getset_descriptor.__get__")))
    (x_ht_Shortener : PySem.W.takesIn K (.builtin "object.__class__") = some true)
    (x_hm_Shortener : PySem.W.mroIn K C_Shortener (.type "object") = some true)
    (x_me_Shortener : PySem.W.kitOne K (.ref C_Shortener) (.ref C_Shortener) = some true)
    (x_na_Shortener_limit : PySem.W.findIn K (.ref C_Shortener) "limit" = some none)
    (x_na_Shortener_head : PySem.W.findIn K (.ref C_Shortener) "head" = some none)
    (x_na_Shortener_tail : PySem.W.findIn K (.ref C_Shortener) "tail" = some none)
    (x_na_Shortener_mark : PySem.W.findIn K (.ref C_Shortener) "mark" = some none)
    (x_na_Shortener_told : PySem.W.findIn K (.ref C_Shortener) "told" = some none)
    (x_a_Shortener___init__ : PySem.W.findIn K (.ref C_Shortener) "__init__" = some (some (.ref f_Shortener___init__)))
    (x_i_Shortener___init__ : PySem.W.isFn K (.ref f_Shortener___init__) = true)
    (x_l_Shortener___init__ : K.lookup f_Shortener___init__ = some ⟨oc_Shortener___init__, od_Shortener___init__, .func (PySem.W.fnOf "__init__" "Shortener.__init__" (L2.defArgs s_Shortener___init__) (L2.defBody s_Shortener___init__) (L2.defScope s_Shortener___init__) .none kV_Shortener___init__ dc_Shortener___init__ pm_Shortener___init__ an_Shortener___init__ cd_Shortener___init__ ct_Shortener___init__), sl_Shortener___init__⟩)
    (x_c_Shortener___init__ : PySem.W.codeIn K cd_Shortener___init__ "Shortener.__init__" = true)
    (x_k_Shortener___init__ : PySem.W.keepIn K (.ref f_Shortener___init__) = true)
    (x_a_Shortener_cut : PySem.W.findIn K (.ref C_Shortener) "cut" = some (some (.ref f_Shortener_cut)))
    (x_i_Shortener_cut : PySem.W.isFn K (.ref f_Shortener_cut) = true)
    (x_l_Shortener_cut : K.lookup f_Shortener_cut = some ⟨oc_Shortener_cut, od_Shortener_cut, .func (PySem.W.fnOf "cut" "Shortener.cut" (L2.defArgs s_Shortener_cut) (L2.defBody s_Shortener_cut) (L2.defScope s_Shortener_cut) .none kV_Shortener_cut dc_Shortener_cut pm_Shortener_cut an_Shortener_cut cd_Shortener_cut ct_Shortener_cut), sl_Shortener_cut⟩)
    (x_c_Shortener_cut : PySem.W.codeIn K cd_Shortener_cut "Shortener.cut" = true)
    (x_k_Shortener_cut : PySem.W.keepIn K (.ref f_Shortener_cut) = true)
    (x_a_Shortener___eq__ : PySem.W.findIn K (.ref C_Shortener) "__eq__" = some (some (.ref f_Shortener___eq__)))
    (x_i_Shortener___eq__ : PySem.W.isFn K (.ref f_Shortener___eq__) = true)
    (x_l_Shortener___eq__ : K.lookup f_Shortener___eq__ = some ⟨oc_Shortener___eq__, od_Shortener___eq__, .func (PySem.W.fnOf "__eq__" "Shortener.__eq__" (L2.defArgs s_Shortener___eq__) (L2.defBody s_Shortener___eq__) (L2.defScope s_Shortener___eq__) .none kV_Shortener___eq__ dc_Shortener___eq__ pm_Shortener___eq__ an_Shortener___eq__ cd_Shortener___eq__ ct_Shortener___eq__), sl_Shortener___eq__⟩)
    (x_c_Shortener___eq__ : PySem.W.codeIn K cd_Shortener___eq__ "Shortener.__eq__" = true)
    (x_k_Shortener___eq__ : PySem.W.keepIn K (.ref f_Shortener___eq__) = true)
    (x_a_Shortener___repr__ : PySem.W.findIn K (.ref C_Shortener) "__repr__" = some (some (.ref f_Shortener___repr__)))
    (x_i_Shortener___repr__ : PySem.W.isFn K (.ref f_Shortener___repr__) = true)
    (x_l_Shortener___repr__ : K.lookup f_Shortener___repr__ = some ⟨oc_Shortener___repr__, od_Shortener___repr__, .func (PySem.W.fnOf "__repr__" "Shortener.__repr__" (L2.defArgs s_Shortener___repr__) (L2.defBody s_Shortener___repr__) (L2.defScope s_Shortener___repr__) .none kV_Shortener___repr__ dc_Shortener___repr__ pm_Shortener___repr__ an_Shortener___repr__ cd_Shortener___repr__ ct_Shortener___repr__), sl_Shortener___repr__⟩)
    (x_c_Shortener___repr__ : PySem.W.codeIn K cd_Shortener___repr__ "Shortener.__repr__" = true)
    (x_k_Shortener___repr__ : PySem.W.keepIn K (.ref f_Shortener___repr__) = true)
    (x_a_is_integer : PySem.W.nsIn K mainGlobals "is_integer" = some (some (.ref f_is_integer)))
    (x_l_is_integer : K.lookup f_is_integer = some ⟨oc_is_integer, od_is_integer, .func (PySem.W.fnOf "is_integer" "is_integer" (L2.defArgs s_is_integer) (L2.defBody s_is_integer) (L2.defScope s_is_integer) .none kV_is_integer dc_is_integer pm_is_integer an_is_integer cd_is_integer ct_is_integer), sl_is_integer⟩)
    (x_c_is_integer : PySem.W.codeIn K cd_is_integer "is_integer" = true)
    (x_k_is_integer : PySem.W.keepIn K (.ref f_is_integer) = true)
    (x_a_is_text : PySem.W.nsIn K mainGlobals "is_text" = some (some (.ref f_is_text)))
    (x_l_is_text : K.lookup f_is_text = some ⟨oc_is_text, od_is_text, .func (PySem.W.fnOf "is_text" "is_text" (L2.defArgs s_is_text) (L2.defBody s_is_text) (L2.defScope s_is_text) .none kV_is_text dc_is_text pm_is_text an_is_text cd_is_text ct_is_text), sl_is_text⟩)
    (x_c_is_text : PySem.W.codeIn K cd_is_text "is_text" = true)
    (x_k_is_text : PySem.W.keepIn K (.ref f_is_text) = true)
    (x_a_check_text : PySem.W.nsIn K mainGlobals "check_text" = some (some (.ref f_check_text)))
    (x_l_check_text : K.lookup f_check_text = some ⟨oc_check_text, od_check_text, .func (PySem.W.fnOf "check_text" "check_text" (L2.defArgs s_check_text) (L2.defBody s_check_text) (L2.defScope s_check_text) .none kV_check_text dc_check_text pm_check_text an_check_text cd_check_text ct_check_text), sl_check_text⟩)
    (x_c_check_text : PySem.W.codeIn K cd_check_text "check_text" = true)
    (x_k_check_text : PySem.W.keepIn K (.ref f_check_text) = true)
    (x_a_check_namer : PySem.W.nsIn K mainGlobals "check_namer" = some (some (.ref f_check_namer)))
    (x_l_check_namer : K.lookup f_check_namer = some ⟨oc_check_namer, od_check_namer, .func (PySem.W.fnOf "check_namer" "check_namer" (L2.defArgs s_check_namer) (L2.defBody s_check_namer) (L2.defScope s_check_namer) .none kV_check_namer dc_check_namer pm_check_namer an_check_namer cd_check_namer ct_check_namer), sl_check_namer⟩)
    (x_c_check_namer : PySem.W.codeIn K cd_check_namer "check_namer" = true)
    (x_k_check_namer : PySem.W.keepIn K (.ref f_check_namer) = true)
    (x_a_check_texts : PySem.W.nsIn K mainGlobals "check_texts" = some (some (.ref f_check_texts)))
    (x_l_check_texts : K.lookup f_check_texts = some ⟨oc_check_texts, od_check_texts, .func (PySem.W.fnOf "check_texts" "check_texts" (L2.defArgs s_check_texts) (L2.defBody s_check_texts) (L2.defScope s_check_texts) .none kV_check_texts dc_check_texts pm_check_texts an_check_texts cd_check_texts ct_check_texts), sl_check_texts⟩)
    (x_c_check_texts : PySem.W.codeIn K cd_check_texts "check_texts" = true)
    (x_k_check_texts : PySem.W.keepIn K (.ref f_check_texts) = true)
    (x_a_names_of : PySem.W.nsIn K mainGlobals "names_of" = some (some (.ref f_names_of)))
    (x_l_names_of : K.lookup f_names_of = some ⟨oc_names_of, od_names_of, .func (PySem.W.fnOf "names_of" "names_of" (L2.defArgs s_names_of) (L2.defBody s_names_of) (L2.defScope s_names_of) .none kV_names_of dc_names_of pm_names_of an_names_of cd_names_of ct_names_of), sl_names_of⟩)
    (x_c_names_of : PySem.W.codeIn K cd_names_of "names_of" = true)
    (x_k_names_of : PySem.W.keepIn K (.ref f_names_of) = true)
    (x_a_names : PySem.W.nsIn K mainGlobals "names" = some (some (.ref f_names)))
    (x_l_names : K.lookup f_names = some ⟨oc_names, od_names, .func (PySem.W.fnOf "names" "names" (L2.defArgs s_names) (L2.defBody s_names) (L2.defScope s_names) .none kV_names dc_names pm_names an_names cd_names ct_names), sl_names⟩)
    (x_c_names : PySem.W.codeIn K cd_names "names" = true)
    (x_k_names : PySem.W.keepIn K (.ref f_names) = true)
    (x_a_check_number : PySem.W.nsIn K mainGlobals "check_number" = some (some (.ref f_check_number)))
    (x_l_check_number : K.lookup f_check_number = some ⟨oc_check_number, od_check_number, .func (PySem.W.fnOf "check_number" "check_number" (L2.defArgs s_check_number) (L2.defBody s_check_number) (L2.defScope s_check_number) .none kV_check_number dc_check_number pm_check_number an_check_number cd_check_number ct_check_number), sl_check_number⟩)
    (x_c_check_number : PySem.W.codeIn K cd_check_number "check_number" = true)
    (x_k_check_number : PySem.W.keepIn K (.ref f_check_number) = true)
    (x_a_check_row : PySem.W.nsIn K mainGlobals "check_row" = some (some (.ref f_check_row)))
    (x_l_check_row : K.lookup f_check_row = some ⟨oc_check_row, od_check_row, .func (PySem.W.fnOf "check_row" "check_row" (L2.defArgs s_check_row) (L2.defBody s_check_row) (L2.defScope s_check_row) .none kV_check_row dc_check_row pm_check_row an_check_row cd_check_row ct_check_row), sl_check_row⟩)
    (x_c_check_row : PySem.W.codeIn K cd_check_row "check_row" = true)
    (x_k_check_row : PySem.W.keepIn K (.ref f_check_row) = true)
    (x_a_cut_by : PySem.W.nsIn K mainGlobals "cut_by" = some (some (.ref f_cut_by)))
    (x_l_cut_by : K.lookup f_cut_by = some ⟨oc_cut_by, od_cut_by, .func (PySem.W.fnOf "cut_by" "cut_by" (L2.defArgs s_cut_by) (L2.defBody s_cut_by) (L2.defScope s_cut_by) .none kV_cut_by dc_cut_by pm_cut_by an_cut_by cd_cut_by ct_cut_by), sl_cut_by⟩)
    (x_c_cut_by : PySem.W.codeIn K cd_cut_by "cut_by" = true)
    (x_k_cut_by : PySem.W.keepIn K (.ref f_cut_by) = true)
    (x_a_show : PySem.W.nsIn K mainGlobals "show" = some (some (.ref f_show)))
    (x_l_show : K.lookup f_show = some ⟨oc_show, od_show, .func (PySem.W.fnOf "show" "show" (L2.defArgs s_show) (L2.defBody s_show) (L2.defScope s_show) .none kV_show dc_show pm_show an_show cd_show ct_show), sl_show⟩)
    (x_c_show : PySem.W.codeIn K cd_show "show" = true)
    (x_k_show : PySem.W.keepIn K (.ref f_show) = true)
    (x_a__law_source : PySem.W.nsIn K mainGlobals "_law_source" = some (some (.ref f__law_source)))
    (x_l__law_source : K.lookup f__law_source = some ⟨oc__law_source, od__law_source, .func (PySem.W.fnOf "_law_source" "_law_source" (L2.defArgs s__law_source) (L2.defBody s__law_source) (L2.defScope s__law_source) .none kV__law_source dc__law_source pm__law_source an__law_source cd__law_source ct__law_source), sl__law_source⟩)
    (x_c__law_source : PySem.W.codeIn K cd__law_source "_law_source" = true)
    (x_k__law_source : PySem.W.keepIn K (.ref f__law_source) = true)
    (x_a__law_draw : PySem.W.nsIn K mainGlobals "_law_draw" = some (some (.ref f__law_draw)))
    (x_l__law_draw : K.lookup f__law_draw = some ⟨oc__law_draw, od__law_draw, .func (PySem.W.fnOf "_law_draw" "_law_draw" (L2.defArgs s__law_draw) (L2.defBody s__law_draw) (L2.defScope s__law_draw) .none kV__law_draw dc__law_draw pm__law_draw an__law_draw cd__law_draw ct__law_draw), sl__law_draw⟩)
    (x_c__law_draw : PySem.W.codeIn K cd__law_draw "_law_draw" = true)
    (x_k__law_draw : PySem.W.keepIn K (.ref f__law_draw) = true)
    (x_a__law_one : PySem.W.nsIn K mainGlobals "_law_one" = some (some (.ref f__law_one)))
    (x_l__law_one : K.lookup f__law_one = some ⟨oc__law_one, od__law_one, .func (PySem.W.fnOf "_law_one" "_law_one" (L2.defArgs s__law_one) (L2.defBody s__law_one) (L2.defScope s__law_one) .none kV__law_one dc__law_one pm__law_one an__law_one cd__law_one ct__law_one), sl__law_one⟩)
    (x_c__law_one : PySem.W.codeIn K cd__law_one "_law_one" = true)
    (x_k__law_one : PySem.W.keepIn K (.ref f__law_one) = true)
    (x_a__law_stem : PySem.W.nsIn K mainGlobals "_law_stem" = some (some (.ref f__law_stem)))
    (x_l__law_stem : K.lookup f__law_stem = some ⟨oc__law_stem, od__law_stem, .func (PySem.W.fnOf "_law_stem" "_law_stem" (L2.defArgs s__law_stem) (L2.defBody s__law_stem) (L2.defScope s__law_stem) .none kV__law_stem dc__law_stem pm__law_stem an__law_stem cd__law_stem ct__law_stem), sl__law_stem⟩)
    (x_c__law_stem : PySem.W.codeIn K cd__law_stem "_law_stem" = true)
    (x_k__law_stem : PySem.W.keepIn K (.ref f__law_stem) = true)
    (x_a__law_word : PySem.W.nsIn K mainGlobals "_law_word" = some (some (.ref f__law_word)))
    (x_l__law_word : K.lookup f__law_word = some ⟨oc__law_word, od__law_word, .func (PySem.W.fnOf "_law_word" "_law_word" (L2.defArgs s__law_word) (L2.defBody s__law_word) (L2.defScope s__law_word) .none kV__law_word dc__law_word pm__law_word an__law_word cd__law_word ct__law_word), sl__law_word⟩)
    (x_c__law_word : PySem.W.codeIn K cd__law_word "_law_word" = true)
    (x_k__law_word : PySem.W.keepIn K (.ref f__law_word) = true)
    (x_a__law_pair_right : PySem.W.nsIn K mainGlobals "_law_pair_right" = some (some (.ref f__law_pair_right)))
    (x_l__law_pair_right : K.lookup f__law_pair_right = some ⟨oc__law_pair_right, od__law_pair_right, .func (PySem.W.fnOf "_law_pair_right" "_law_pair_right" (L2.defArgs s__law_pair_right) (L2.defBody s__law_pair_right) (L2.defScope s__law_pair_right) .none kV__law_pair_right dc__law_pair_right pm__law_pair_right an__law_pair_right cd__law_pair_right ct__law_pair_right), sl__law_pair_right⟩)
    (x_c__law_pair_right : PySem.W.codeIn K cd__law_pair_right "_law_pair_right" = true)
    (x_k__law_pair_right : PySem.W.keepIn K (.ref f__law_pair_right) = true)
    (x_a__law_right : PySem.W.nsIn K mainGlobals "_law_right" = some (some (.ref f__law_right)))
    (x_l__law_right : K.lookup f__law_right = some ⟨oc__law_right, od__law_right, .func (PySem.W.fnOf "_law_right" "_law_right" (L2.defArgs s__law_right) (L2.defBody s__law_right) (L2.defScope s__law_right) .none kV__law_right dc__law_right pm__law_right an__law_right cd__law_right ct__law_right), sl__law_right⟩)
    (x_c__law_right : PySem.W.codeIn K cd__law_right "_law_right" = true)
    (x_k__law_right : PySem.W.keepIn K (.ref f__law_right) = true)
    (x_a_law : PySem.W.nsIn K mainGlobals "law" = some (some (.ref f_law)))
    (x_l_law : K.lookup f_law = some ⟨oc_law, od_law, .func (PySem.W.fnOf "law" "law" (L2.defArgs s_law) (L2.defBody s_law) (L2.defScope s_law) .none kV_law dc_law pm_law an_law cd_law ct_law), sl_law⟩)
    (x_c_law : PySem.W.codeIn K cd_law "law" = true)
    (x_k_law : PySem.W.keepIn K (.ref f_law) = true) : ∃ T : Tx K mg, T.f_law = f_law := by
  exact ⟨⟨PySem.W.mg_none_of X G x_n_abs,
    PySem.W.mg_none_of X G x_n_all,
    PySem.W.mg_none_of X G x_n_bool,
    PySem.W.mg_none_of X G x_n_divmod,
    PySem.W.mg_none_of X G x_n_enumerate,
    PySem.W.mg_none_of X G x_n_int,
    PySem.W.mg_none_of X G x_n_isinstance,
    PySem.W.mg_none_of X G x_n_len,
    PySem.W.mg_none_of X G x_n_list,
    PySem.W.mg_none_of X G x_n_max,
    PySem.W.mg_none_of X G x_n_min,
    PySem.W.mg_none_of X G x_n_range,
    PySem.W.mg_none_of X G x_n_str,
    PySem.W.mg_none_of X G x_n_tuple,
    ⟨_, PySem.W.mg_of X G x_k_MOST_SIGNS, _, rfl⟩,
    ⟨_, PySem.W.mg_of X G x_k_MOST_MARK, _, rfl⟩,
    ⟨_, PySem.W.mg_of X G x_k_MOST_ROW, _, rfl⟩,
    ⟨_, PySem.W.mg_of X G x_k_MOST_TEXT, _, rfl⟩,
    ⟨_, PySem.W.mg_of X G x_k_MOST_LISTED, _, rfl⟩,
    ⟨_, PySem.W.mg_of X G x_k_SIGNS, _, rfl⟩,
    ad_RULES,
    PySem.W.mg_of X G x_m_RULES,
    fun _ => .inr ⟨_, _, _, x_q_RULES, rfl, rfl, (by show 3 ≤ sizeLine; decide), .cons ⟨_, rfl⟩ (.cons ⟨_, rfl⟩ (.cons ⟨_, rfl⟩ (.nil)))⟩,
    ⟨_, PySem.W.mg_of X G x_k_LEAST_WIDTH, _, rfl⟩,
    ⟨_, PySem.W.mg_of X G x_k_FIRST_NUMBER, _, rfl⟩,
    C_Namer,
    PySem.W.mg_of X G x_C_Namer,
    ⟨x_pg_Namer, x_hd_Namer, x_po_Namer, x_sa_Namer⟩,
    ⟨⟨x_pg_Namer, x_hd_Namer, x_po_Namer, x_sa_Namer⟩, x_ha_Namer, x_hn_Namer, x_ht_Namer, x_hm_Namer, x_me_Namer⟩,
    x_na_Namer_rule,
    x_na_Namer_width,
    f_Namer___init__,
    _,
    (fun_mk (st := s_Namer___init__) x_l_Namer___init__ x_c_Namer___init__ x_k_Namer___init__),
    (fun_mk (st := s_Namer___init__) x_l_Namer___init__ x_c_Namer___init__ x_k_Namer___init__).binds (ps := p_Namer___init__) fun _ _ _ _ _ _ us hl => match us, hl with | [_, _, _], _ => rfl,
    ⟨x_mk_Namer, x_a_Namer___init__, x_i_Namer___init__, x_kc_Namer⟩,
    f_Namer_base_of,
    _,
    (fun_mk (st := s_Namer_base_of) x_l_Namer_base_of x_c_Namer_base_of x_k_Namer_base_of),
    (fun_mk (st := s_Namer_base_of) x_l_Namer_base_of x_c_Namer_base_of x_k_Namer_base_of).binds (ps := p_Namer_base_of) fun _ _ _ _ _ _ us hl => match us, hl with | [_, _], _ => rfl,
    ⟨x_a_Namer_base_of, x_i_Namer_base_of, x_k_Namer_base_of⟩,
    f_Namer_numbered,
    _,
    (fun_mk (st := s_Namer_numbered) x_l_Namer_numbered x_c_Namer_numbered x_k_Namer_numbered),
    (fun_mk (st := s_Namer_numbered) x_l_Namer_numbered x_c_Namer_numbered x_k_Namer_numbered).binds (ps := p_Namer_numbered) fun _ _ _ _ _ _ us hl => match us, hl with | [_, _, _], _ => rfl,
    ⟨x_a_Namer_numbered, x_i_Namer_numbered, x_k_Namer_numbered⟩,
    f_Namer_name_for,
    _,
    (fun_mk (st := s_Namer_name_for) x_l_Namer_name_for x_c_Namer_name_for x_k_Namer_name_for),
    (fun_mk (st := s_Namer_name_for) x_l_Namer_name_for x_c_Namer_name_for x_k_Namer_name_for).binds (ps := p_Namer_name_for) fun _ _ _ _ _ _ us hl => match us, hl with | [_, _, _], _ => rfl,
    ⟨x_a_Namer_name_for, x_i_Namer_name_for, x_k_Namer_name_for⟩,
    f_Namer___eq__,
    _,
    (fun_mk (st := s_Namer___eq__) x_l_Namer___eq__ x_c_Namer___eq__ x_k_Namer___eq__),
    (fun_mk (st := s_Namer___eq__) x_l_Namer___eq__ x_c_Namer___eq__ x_k_Namer___eq__).binds (ps := p_Namer___eq__) fun _ _ _ _ _ _ us hl => match us, hl with | [_, _], _ => rfl,
    ⟨x_a_Namer___eq__, x_i_Namer___eq__, x_k_Namer___eq__⟩,
    f_Namer___repr__,
    _,
    (fun_mk (st := s_Namer___repr__) x_l_Namer___repr__ x_c_Namer___repr__ x_k_Namer___repr__),
    (fun_mk (st := s_Namer___repr__) x_l_Namer___repr__ x_c_Namer___repr__ x_k_Namer___repr__).binds (ps := p_Namer___repr__) fun _ _ _ _ _ _ us hl => match us, hl with | [_], _ => rfl,
    ⟨x_a_Namer___repr__, x_i_Namer___repr__, x_k_Namer___repr__⟩,
    C_Shortener,
    PySem.W.mg_of X G x_C_Shortener,
    ⟨x_pg_Shortener, x_hd_Shortener, x_po_Shortener, x_sa_Shortener⟩,
    ⟨⟨x_pg_Shortener, x_hd_Shortener, x_po_Shortener, x_sa_Shortener⟩, x_ha_Shortener, x_hn_Shortener, x_ht_Shortener, x_hm_Shortener, x_me_Shortener⟩,
    x_na_Shortener_limit,
    x_na_Shortener_head,
    x_na_Shortener_tail,
    x_na_Shortener_mark,
    x_na_Shortener_told,
    f_Shortener___init__,
    _,
    (fun_mk (st := s_Shortener___init__) x_l_Shortener___init__ x_c_Shortener___init__ x_k_Shortener___init__),
    (fun_mk (st := s_Shortener___init__) x_l_Shortener___init__ x_c_Shortener___init__ x_k_Shortener___init__).binds (ps := p_Shortener___init__) fun _ _ _ _ _ _ us hl => match us, hl with | [_, _, _, _, _], _ => rfl,
    ⟨x_mk_Shortener, x_a_Shortener___init__, x_i_Shortener___init__, x_kc_Shortener⟩,
    f_Shortener_cut,
    _,
    (fun_mk (st := s_Shortener_cut) x_l_Shortener_cut x_c_Shortener_cut x_k_Shortener_cut),
    (fun_mk (st := s_Shortener_cut) x_l_Shortener_cut x_c_Shortener_cut x_k_Shortener_cut).binds (ps := p_Shortener_cut) fun _ _ _ _ _ _ us hl => match us, hl with | [_, _], _ => rfl,
    ⟨x_a_Shortener_cut, x_i_Shortener_cut, x_k_Shortener_cut⟩,
    f_Shortener___eq__,
    _,
    (fun_mk (st := s_Shortener___eq__) x_l_Shortener___eq__ x_c_Shortener___eq__ x_k_Shortener___eq__),
    (fun_mk (st := s_Shortener___eq__) x_l_Shortener___eq__ x_c_Shortener___eq__ x_k_Shortener___eq__).binds (ps := p_Shortener___eq__) fun _ _ _ _ _ _ us hl => match us, hl with | [_, _], _ => rfl,
    ⟨x_a_Shortener___eq__, x_i_Shortener___eq__, x_k_Shortener___eq__⟩,
    f_Shortener___repr__,
    _,
    (fun_mk (st := s_Shortener___repr__) x_l_Shortener___repr__ x_c_Shortener___repr__ x_k_Shortener___repr__),
    (fun_mk (st := s_Shortener___repr__) x_l_Shortener___repr__ x_c_Shortener___repr__ x_k_Shortener___repr__).binds (ps := p_Shortener___repr__) fun _ _ _ _ _ _ us hl => match us, hl with | [_], _ => rfl,
    ⟨x_a_Shortener___repr__, x_i_Shortener___repr__, x_k_Shortener___repr__⟩,
    f_is_integer,
    _,
    (fun_mk (st := s_is_integer) x_l_is_integer x_c_is_integer x_k_is_integer),
    (fun_mk (st := s_is_integer) x_l_is_integer x_c_is_integer x_k_is_integer).binds (ps := p_is_integer) fun _ _ _ _ _ _ us hl => match us, hl with | [_], _ => rfl,
    PySem.W.mg_of X G x_a_is_integer,
    f_is_text,
    _,
    (fun_mk (st := s_is_text) x_l_is_text x_c_is_text x_k_is_text),
    (fun_mk (st := s_is_text) x_l_is_text x_c_is_text x_k_is_text).binds (ps := p_is_text) fun _ _ _ _ _ _ us hl => match us, hl with | [_, _], _ => rfl,
    PySem.W.mg_of X G x_a_is_text,
    f_check_text,
    _,
    (fun_mk (st := s_check_text) x_l_check_text x_c_check_text x_k_check_text),
    (fun_mk (st := s_check_text) x_l_check_text x_c_check_text x_k_check_text).binds (ps := p_check_text) fun _ _ _ _ _ _ us hl => match us, hl with | [_], _ => rfl,
    PySem.W.mg_of X G x_a_check_text,
    f_check_namer,
    _,
    (fun_mk (st := s_check_namer) x_l_check_namer x_c_check_namer x_k_check_namer),
    (fun_mk (st := s_check_namer) x_l_check_namer x_c_check_namer x_k_check_namer).binds (ps := p_check_namer) fun _ _ _ _ _ _ us hl => match us, hl with | [_], _ => rfl,
    PySem.W.mg_of X G x_a_check_namer,
    f_check_texts,
    _,
    (fun_mk (st := s_check_texts) x_l_check_texts x_c_check_texts x_k_check_texts),
    (fun_mk (st := s_check_texts) x_l_check_texts x_c_check_texts x_k_check_texts).binds (ps := p_check_texts) fun _ _ _ _ _ _ us hl => match us, hl with | [_], _ => rfl,
    PySem.W.mg_of X G x_a_check_texts,
    f_names_of,
    _,
    (fun_mk (st := s_names_of) x_l_names_of x_c_names_of x_k_names_of),
    (fun_mk (st := s_names_of) x_l_names_of x_c_names_of x_k_names_of).binds (ps := p_names_of) fun _ _ _ _ _ _ us hl => match us, hl with | [_, _], _ => rfl,
    PySem.W.mg_of X G x_a_names_of,
    f_names,
    _,
    (fun_mk (st := s_names) x_l_names x_c_names x_k_names),
    (fun_mk (st := s_names) x_l_names x_c_names x_k_names).binds (ps := p_names) fun _ _ _ _ _ _ us hl => match us, hl with | [_, _], _ => rfl,
    PySem.W.mg_of X G x_a_names,
    f_check_number,
    _,
    (fun_mk (st := s_check_number) x_l_check_number x_c_check_number x_k_check_number),
    (fun_mk (st := s_check_number) x_l_check_number x_c_check_number x_k_check_number).binds (ps := p_check_number) fun _ _ _ _ _ _ us hl => match us, hl with | [_], _ => rfl,
    PySem.W.mg_of X G x_a_check_number,
    f_check_row,
    _,
    (fun_mk (st := s_check_row) x_l_check_row x_c_check_row x_k_check_row),
    (fun_mk (st := s_check_row) x_l_check_row x_c_check_row x_k_check_row).binds (ps := p_check_row) fun _ _ _ _ _ _ us hl => match us, hl with | [_], _ => rfl,
    PySem.W.mg_of X G x_a_check_row,
    f_cut_by,
    _,
    (fun_mk (st := s_cut_by) x_l_cut_by x_c_cut_by x_k_cut_by),
    (fun_mk (st := s_cut_by) x_l_cut_by x_c_cut_by x_k_cut_by).binds (ps := p_cut_by) fun _ _ _ _ _ _ us hl => match us, hl with | [_, _], _ => rfl,
    PySem.W.mg_of X G x_a_cut_by,
    f_show,
    _,
    (fun_mk (st := s_show) x_l_show x_c_show x_k_show),
    (fun_mk (st := s_show) x_l_show x_c_show x_k_show).binds (ps := p_show) fun _ _ _ _ _ _ us hl => match us, hl with | [_, _], _ => rfl,
    PySem.W.mg_of X G x_a_show,
    f__law_source,
    _,
    (fun_mk (st := s__law_source) x_l__law_source x_c__law_source x_k__law_source),
    (fun_mk (st := s__law_source) x_l__law_source x_c__law_source x_k__law_source).binds (ps := p__law_source) fun _ _ _ _ _ _ us hl => match us, hl with | [_, _], _ => rfl,
    PySem.W.mg_of X G x_a__law_source,
    f__law_draw,
    _,
    (fun_mk (st := s__law_draw) x_l__law_draw x_c__law_draw x_k__law_draw),
    (fun_mk (st := s__law_draw) x_l__law_draw x_c__law_draw x_k__law_draw).binds (ps := p__law_draw) fun _ _ _ _ _ _ us hl => match us, hl with | [_, _], _ => rfl,
    PySem.W.mg_of X G x_a__law_draw,
    f__law_one,
    _,
    (fun_mk (st := s__law_one) x_l__law_one x_c__law_one x_k__law_one),
    (fun_mk (st := s__law_one) x_l__law_one x_c__law_one x_k__law_one).binds (ps := p__law_one) fun _ _ _ _ _ _ us hl => match us, hl with | [_, _], _ => rfl,
    PySem.W.mg_of X G x_a__law_one,
    f__law_stem,
    _,
    (fun_mk (st := s__law_stem) x_l__law_stem x_c__law_stem x_k__law_stem),
    (fun_mk (st := s__law_stem) x_l__law_stem x_c__law_stem x_k__law_stem).binds (ps := p__law_stem) fun _ _ _ _ _ _ us hl => match us, hl with | [_, _], _ => rfl,
    PySem.W.mg_of X G x_a__law_stem,
    f__law_word,
    _,
    (fun_mk (st := s__law_word) x_l__law_word x_c__law_word x_k__law_word),
    (fun_mk (st := s__law_word) x_l__law_word x_c__law_word x_k__law_word).binds (ps := p__law_word) fun _ _ _ _ _ _ us hl => match us, hl with | [_, _], _ => rfl,
    PySem.W.mg_of X G x_a__law_word,
    f__law_pair_right,
    _,
    (fun_mk (st := s__law_pair_right) x_l__law_pair_right x_c__law_pair_right x_k__law_pair_right),
    (fun_mk (st := s__law_pair_right) x_l__law_pair_right x_c__law_pair_right x_k__law_pair_right).binds (ps := p__law_pair_right) fun _ _ _ _ _ _ us hl => match us, hl with | [_, _, _], _ => rfl,
    PySem.W.mg_of X G x_a__law_pair_right,
    f__law_right,
    _,
    (fun_mk (st := s__law_right) x_l__law_right x_c__law_right x_k__law_right),
    (fun_mk (st := s__law_right) x_l__law_right x_c__law_right x_k__law_right).binds (ps := p__law_right) fun _ _ _ _ _ _ us hl => match us, hl with | [_], _ => rfl,
    PySem.W.mg_of X G x_a__law_right,
    f_law,
    _,
    (fun_mk (st := s_law) x_l_law x_c_law x_k_law),
    (fun_mk (st := s_law) x_l_law x_c_law x_k_law).binds (ps := p_law) fun _ _ _ _ _ _ us hl => match us, hl with | [_], _ => rfl,
    PySem.W.mg_of X G x_a_law⟩, rfl⟩
end G

local macro_rules | `(tactic| walk_at "go") => `(tactic| simp (config := { failIfUnchanged := false, maxSteps := 2000000 }) only [U.e_var, U.e_c, U.e_op, U.e_un, U.e_nil, U.e_cons, U.e_cb, U.e_call, U.e_tup, U.e_lst, U.e_if, U.e_andV, U.e_orV, U.e_notV, U.e_chain, U.e_test, U.e_B, U.e_and, U.e_or, U.e_not, U.e_asg, U.e_name, U.e_seq, U.e_next, U.e_ret, U.e_ifS, U.e_drop, U.e_part, U.e_noPart, U.e_sl, U.e_I0, U.e_I, U.e_exbl, U.e_exint, U.e_exstr, U.e_exsome, U.e_pair, U.e_expair, U.e_m1, U.e_m0, U.e_bm, U.e_bm0, U.e_fld, U.e_sfld, U.e_then, U.e_star, U.e_yes, U.e_gcons, U.e_gnil, U.e_gtup, U.e_gsub, U.e_make, U.e_makeK, U.e_callN, U.e_meth, U.e_kTup, U.e_lcL, U.e_lcT, U.e_lcS, U.e_lcR, U.e_lcR2, U.e_forL, U.e_forT, U.e_forR, U.e_forR2, U.e_forE, U.e_lstRg, U.e_revT, L2.wipe, eq_self,
  U.rAddU, U.rEqU, U.rNeU, U.rLtU, U.rInU, U.rNinU, U.rIxU, U.rSlU, U.rLenU, U.rInt1, U.rI1, U.rI2, L2.rU, U.rListU, L2.scal,
  L2.start, List.map_cons, List.map_nil, List.length_cons, List.length_nil, List.cons_append, List.nil_append, List.append_nil, List.getElem?_cons_zero, List.getElem?_cons_succ, List.set_cons_zero, List.set_cons_succ, Nat.reduceAdd, Nat.reduceSub, List.reduceReplicate, Nat.zero_add,
  if_true, if_false, Bool.false_eq_true, decide_eq_true_eq, Bool.not_eq_true', decide_eq_false_iff_not, Bool.not_true, Bool.not_false, L2.V.int.injEq, L2.V.str.injEq, L2.V.bl.injEq, L2.V.ref.injEq, exists_eq_left', exists_and_left, true_and, and_true, not_true_eq_false, not_false_eq_true, reduceCtorEq])
local macro_rules | `(tactic| walk_at "lz") => `(tactic| simp (config := { failIfUnchanged := false, maxSteps := 2000000 }) only [U.e_var, U.e_c, U.e_op, U.e_un, U.e_nil, U.e_cons, U.e_cb, U.e_call, U.e_tup, U.e_lst, U.e_if, U.e_andV, U.e_orV, U.e_notV, U.e_chain, U.e_test, U.e_B, U.e_and, U.e_or, U.e_not, U.e_asg, U.e_name, U.e_seq, U.e_next, U.e_ret, U.e_ifS, U.e_drop, U.e_part, U.e_noPart, U.e_sl, U.e_I0, U.e_I, U.e_exbl, U.e_exint, U.e_exstr, U.e_exsome, U.e_pair, U.e_expair, U.e_m1, U.e_m0, U.e_bm, U.e_bm0, U.e_fld, U.e_sfld, U.e_then, U.e_star, U.e_yes, U.e_gcons, U.e_gnil, U.e_gtup, U.e_gsub, U.e_make, U.e_makeK, U.e_callN, U.e_meth, U.e_kTup, U.e_lcL, U.e_lcT, U.e_lcS, U.e_lcR, U.e_lcR2, U.e_forL, U.e_forT, U.e_forR, U.e_forR2, U.e_forE, U.e_lstRg, U.e_revT, L2.wipe, eq_self,
  U.rEqU, U.rNeU, U.rLtU, U.rInU, U.rNinU, U.rIxU, U.rSlU, U.rLenU, U.rInt1, U.rI1, U.rI2, L2.rU, U.rListU, L2.scal,
  L2.start, List.map_cons, List.map_nil, List.length_cons, List.length_nil, List.cons_append, List.nil_append, List.append_nil, List.getElem?_cons_zero, List.getElem?_cons_succ, List.set_cons_zero, List.set_cons_succ, Nat.reduceAdd, Nat.reduceSub, List.reduceReplicate, Nat.zero_add,
  if_true, if_false, Bool.false_eq_true, decide_eq_true_eq, Bool.not_eq_true', decide_eq_false_iff_not, Bool.not_true, Bool.not_false, L2.V.int.injEq, L2.V.str.injEq, L2.V.bl.injEq, L2.V.ref.injEq, exists_eq_left', exists_and_left, true_and, and_true, not_true_eq_false, not_false_eq_true, reduceCtorEq])
local macro_rules | `(tactic| walk_at "lx") => `(tactic| simp (config := { failIfUnchanged := false, maxSteps := 2000000 }) only [U.e_var, U.e_c, U.e_op, U.e_un, U.e_nil, U.e_cons, U.e_cb, U.e_call, U.e_tup, U.e_lst, U.e_if, U.e_andV, U.e_orV, U.e_notV, U.e_chain, U.e_test, U.e_B, U.e_and, U.e_or, U.e_not, U.e_asg, U.e_name, U.e_seq, U.e_next, U.e_ret, U.e_ifS, U.e_drop, U.e_part, U.e_noPart, U.e_sl, U.e_I0, U.e_I, U.e_exbl, U.e_exint, U.e_exstr, U.e_exsome, U.e_pair, U.e_expair, U.e_m1, U.e_m0, U.e_bm, U.e_bm0, U.e_fld, U.e_sfld, U.e_then, U.e_star, U.e_yes, U.e_gcons, U.e_gnil, U.e_gtup, U.e_gsub, U.e_make, U.e_makeK, U.e_callN, U.e_meth, U.e_kTup, U.e_lcL, U.e_lcT, U.e_lcS, U.e_lcR, U.e_lcR2, U.e_forL, U.e_forT, U.e_forR, U.e_forR2, U.e_forE, U.e_lstRg, U.e_revT, L2.wipe, eq_self,
  U.rLtU, U.rInU, U.rNinU, U.rSlU, U.rLenU, U.rInt1, U.rI1, U.rI2, L2.rU, U.rListU, L2.scal,
  L2.start, List.map_cons, List.map_nil, List.length_cons, List.length_nil, List.cons_append, List.nil_append, List.append_nil, List.getElem?_cons_zero, List.getElem?_cons_succ, List.set_cons_zero, List.set_cons_succ, Nat.reduceAdd, Nat.reduceSub, List.reduceReplicate, Nat.zero_add,
  if_true, if_false, Bool.false_eq_true, decide_eq_true_eq, Bool.not_eq_true', decide_eq_false_iff_not, Bool.not_true, Bool.not_false, L2.V.int.injEq, L2.V.str.injEq, L2.V.bl.injEq, L2.V.ref.injEq, exists_eq_left', exists_and_left, true_and, and_true, not_true_eq_false, not_false_eq_true, reduceCtorEq])
local macro_rules | `(tactic| walk_at "ly") => `(tactic| simp (config := { failIfUnchanged := false, maxSteps := 2000000 }) only [U.e_var, U.e_c, U.e_op, U.e_un, U.e_nil, U.e_cons, U.e_cb, U.e_call, U.e_tup, U.e_lst, U.e_if, U.e_andV, U.e_orV, U.e_notV, U.e_chain, U.e_test, U.e_B, U.e_and, U.e_or, U.e_not, U.e_asg, U.e_name, U.e_seq, U.e_next, U.e_ret, U.e_ifS, U.e_drop, U.e_part, U.e_noPart, U.e_sl, U.e_I0, U.e_I, U.e_exbl, U.e_exint, U.e_exstr, U.e_exsome, U.e_pair, U.e_expair, U.e_m1, U.e_m0, U.e_bm, U.e_bm0, U.e_fld, U.e_sfld, U.e_then, U.e_star, U.e_yes, U.e_gcons, U.e_gnil, U.e_gtup, U.e_gsub, U.e_make, U.e_makeK, U.e_callN, U.e_meth, U.e_kTup, U.e_lcL, U.e_lcT, U.e_lcS, U.e_lcR, U.e_lcR2, U.e_forL, U.e_forT, U.e_forR, U.e_forR2, U.e_forE, U.e_lstRg, U.e_revT, L2.wipe, eq_self,
  U.rSlU, U.rInt1, U.rI1, U.rI2, L2.rU, U.rListU, L2.scal,
  L2.start, List.map_cons, List.map_nil, List.length_cons, List.length_nil, List.cons_append, List.nil_append, List.append_nil, List.getElem?_cons_zero, List.getElem?_cons_succ, List.set_cons_zero, List.set_cons_succ, Nat.reduceAdd, Nat.reduceSub, List.reduceReplicate, Nat.zero_add,
  if_true, if_false, Bool.false_eq_true, decide_eq_true_eq, Bool.not_eq_true', decide_eq_false_iff_not, Bool.not_true, Bool.not_false, L2.V.int.injEq, L2.V.str.injEq, L2.V.bl.injEq, L2.V.ref.injEq, exists_eq_left', exists_and_left, true_and, and_true, not_true_eq_false, not_false_eq_true, reduceCtorEq])
local macro_rules | `(tactic| walk_at "lw") => `(tactic| simp (config := { failIfUnchanged := false, maxSteps := 2000000 }) only [U.e_var, U.e_c, U.e_op, U.e_un, U.e_nil, U.e_cons, U.e_cb, U.e_call, U.e_tup, U.e_lst, U.e_if, U.e_andV, U.e_orV, U.e_notV, U.e_chain, U.e_test, U.e_B, U.e_and, U.e_or, U.e_not, U.e_asg, U.e_name, U.e_seq, U.e_next, U.e_ret, U.e_ifS, U.e_drop, U.e_part, U.e_noPart, U.e_sl, U.e_I0, U.e_I, U.e_exbl, U.e_exint, U.e_exstr, U.e_exsome, U.e_pair, U.e_expair, U.e_m1, U.e_m0, U.e_bm, U.e_bm0, U.e_fld, U.e_sfld, U.e_then, U.e_star, U.e_yes, U.e_gcons, U.e_gnil, U.e_gtup, U.e_gsub, U.e_make, U.e_makeK, U.e_callN, U.e_meth, U.e_lcL, U.e_lcT, U.e_lcS, U.e_lcR, U.e_lcR2, U.e_forL, U.e_forT, U.e_forR, U.e_forR2, U.e_forE, U.e_lstRg, U.e_revT, L2.wipe, eq_self,
  U.rInt1, U.rI1, U.rI2, L2.rU, U.rListU, L2.scal,
  L2.start, List.map_cons, List.map_nil, List.length_cons, List.length_nil, List.cons_append, List.nil_append, List.append_nil, List.getElem?_cons_zero, List.getElem?_cons_succ, List.set_cons_zero, List.set_cons_succ, Nat.reduceAdd, Nat.reduceSub, List.reduceReplicate, Nat.zero_add,
  if_true, if_false, Bool.false_eq_true, decide_eq_true_eq, Bool.not_eq_true', decide_eq_false_iff_not, Bool.not_true, Bool.not_false, L2.V.int.injEq, L2.V.str.injEq, L2.V.bl.injEq, L2.V.ref.injEq, exists_eq_left', exists_and_left, true_and, and_true, not_true_eq_false, not_false_eq_true, reduceCtorEq])


namespace G
open PySem PySem.Spec PyProof.Rows L2 U
section
variable {P : Program} {w : World} {K : PySem.W.Frag} {mg : Str → Option Value} {base : Heap}
theorem ok1__law_draw (T : Tx K mg) : FnOk P w K mg base L2.CX0 lv__law_draw T.f__law_draw T.d__law_draw p__law_draw spDraw1 := by
  refine T.F__law_draw.ok sc__law_draw (fun vs H Q E h => ?_) (fun cdv A outer s H vs Q E hr h => ?_)
  · obtain ⟨p, n, a, b, c, rfl, _⟩ := h
    rfl
  · obtain ⟨p, n, a, b, c, rfl, hp, ⟨hn, hn2⟩, q⟩ := h
    refine ⟨_, (pss_cons (ps_asg (pe_op op_addU (pe_ix (ix_K (K := K) rfl) (pv 0) pe_int (fun _ _ => rfl)) pe_int) (pg_sub (pv 0) pe_int set_list))
        (pss_cons (ps_if (pt_cmpR op_gt (pe_ix (ix_K (K := K) rfl) (pv 0) pe_int (fun _ _ => rfl)) pe_int (nomark _)) (pss_cons (ps_asg (pe_callB call_divmod (by rfl) T.n_divmod (by decide +kernel) (pa_cons (pe_ix (ix_K (K := K) rfl) (pv 0) pe_int (fun _ _ => rfl)) (pa_cons (pv 1) pa_nil))) (pg_tupK (K := K) (n := 2) rfl rfl (pgs_cons (pg_sub (pv 0) pe_int set_list) (pgs_cons (pg_name (i := 2) sc__law_draw.nd rfl (by first | exact Or.inl rfl | exact Or.inr rfl)) pgs_nil))))
        (pss_one (ps_ret (pv 2)))) pss_nil)
        (pss_cons (ps_set (i := 3) sc__law_draw.nd rfl (by first | exact Or.inl rfl | exact Or.inr rfl) (pe_callTy call_intU (by rfl) T.n_int (by decide +kernel) (pa_cons (pe_ix (ix_K (K := K) rfl) (pv 0) pe_int (fun _ _ => rfl)) pa_nil)))
        (pss_cons (ps_set (i := 4) sc__law_draw.nd rfl (by first | exact Or.inl rfl | exact Or.inr rfl) (pe_op op_addU (pe_op op_mod (pe_callTy call_intU (by rfl) T.n_int (by decide +kernel) (pa_cons (pv 3) pa_nil)) pe_int) pe_int))
        (pss_cons (ps_asg (pe_op op_mod (pe_callTy call_intU (by rfl) T.n_int (by decide +kernel) (pa_cons (pe_op op_addU (pe_op op_addU (pe_op op_mul (pv 3) (pv 4)) (pe_op op_mul pe_int (pe_ix (ix_K (K := K) rfl) (pv 0) pe_int (fun _ _ => rfl)))) pe_int) pa_nil)) pe_int) (pg_sub (pv 0) pe_int set_list))
        (pss_one (ps_ret (pe_op op_mod (pe_op op_fdiv (pe_callTy call_intU (by rfl) T.n_int (by decide +kernel) (pa_cons (pe_ix (ix_K (K := K) rfl) (pv 0) pe_int (fun _ _ => rfl)) pa_nil)) pe_int) (pv 1))))))))), ?_⟩
    walk_at "lx"
    refine ixL hp rfl (adI ?_)
    refine ⟨p, _, 2, 2, rfl, rfl, hp, rfl, ?_⟩
    have e1 : ([V.int a, V.int b, V.int c] : List V).set 2 (V.int (c + 1)) = [.int a, .int b, .int (c + 1)] := rfl
    rw [e1]
    refine ixL upd_same rfl ?_
    walk_at "lx"
    refine ite2 (fun ca => ?_) (fun ca => ?_)
    · refine ixL upd_same rfl ?_
      refine ⟨_, _, rfl, ⟨hn, hn2⟩, fun t ht => ?_⟩
      have npt : p ≠ t := ne_of_none upd_same ht
      refine ⟨_, SqT.of upd_same, rfl, ?_⟩
      walk_at "go"
      refine ⟨p, _, 0, 0, rfl, rfl, (by rw [upd_ne npt]; exact upd_same), rfl, ?_⟩
      rw [upd_ne npt.symm] at ht
      refine q _ _ _ _ _ ?_ upd_same (Int.emod_nonneg _ (by omega)) (Int.emod_lt_of_pos _ hn)
      refine Ext.mut (Ext.new (Ext.mut (Ext.refl _) rfl) ?_) rfl
      rw [upd_ne npt.symm]
      exact ht
    · refine ixL upd_same rfl ?_
      walk_at "lx"
      have h1 := Int.emod_nonneg b (show (9973 : Int) ≠ 0 by decide)
      have h2 := Int.emod_lt_of_pos b (show (0 : Int) < 9973 by decide)
      refine ⟨by decide, adI ⟨_, _, rfl, rfl, .inr ⟨by omega, by omega⟩, ixL upd_same rfl ⟨_, _, rfl, rfl, .inl ⟨by decide, by decide⟩, adI (adI ?_)⟩⟩⟩
      walk_at "lx"
      refine ⟨by decide, ?_⟩
      refine ⟨p, _, 1, 1, rfl, rfl, upd_same, rfl, ?_⟩
      refine ixL upd_same rfl ?_
      walk_at "lx"
      refine ⟨⟨by decide, by decide⟩, hn, ?_⟩
      refine q _ _ _ _ _ ?_ upd_same (Int.emod_nonneg _ (by omega)) (Int.emod_lt_of_pos _ hn)
      exact Ext.mut (Ext.mut (Ext.refl _) rfl) rfl
theorem ok__law_draw (T : Tx K mg) : FnOk P w K mg base L2.CX0 lv__law_draw T.f__law_draw T.d__law_draw p__law_draw spDraw := fn_draw (ok1__law_draw T) rfl
/-- one of some things: lists, tuples or texts -/
def spOneOf (K : PySem.W.Frag) : Sp := fun vs H Q _ => ∃ (p : Addr) (v : V), vs = [.ref p, v] ∧ Pot H p ∧
  ((∃ a xs, v = .ref a ∧ (H a = some (.lst xs) ∨ H a = some (.tup xs)) ∧ 0 < xs.length ∧ xs.length < 1000000 ∧ ∀ x H', Same H H' → x ∈ xs → Q x H') ∨
   (∃ z, v = .str z ∧ 0 < z.length ∧ z.length < 1000000 ∧ ∀ c H', Same H H' → c ∈ cd z → Q (.str (one c)) H'))
theorem ok__law_one (T : Tx K mg) : FnOk P w K mg base L2.CX0 lv__law_one T.f__law_one T.d__law_one p__law_one (spOneOf K) := by
  refine T.F__law_one.ok sc__law_one (fun vs H Q E h => ?_) (fun cdv A outer s H vs Q E hr h => ?_)
  · obtain ⟨p, v, rfl, _⟩ := h
    rfl
  · obtain ⟨p, v, rfl, hp, h⟩ := h
    refine ⟨_, (pss_one (ps_ret (pe_ix (ix_K (K := K) rfl) (pv 1) (pe_call (ok__law_draw T) (hr.mono (by decide)) rfl T.m__law_draw T.F__law_draw.kp T.b__law_draw .nil pass0 (pa_cons (pv 0) (pa_cons (pe_callB (call_lenK (K := K) rfl) (by rfl) T.n_len (by decide +kernel) (pa_cons (pv 1) pa_nil)) pa_nil))) (fun _ _ => rfl)))), ?_⟩
    walk_at "go"
    rcases h with ⟨a, xs, rfl, ha, h0, h1, q⟩ | ⟨z, rfl, h0, h1, q⟩
    · have hq : ∀ H', Same H H' → SqL K H' a xs ∨ SqT K H' a xs := fun H' e => by
        rcases ha with ha | ha
        · exact .inl (SqL.of (e _ _ ha))
        · exact .inr (SqT.of (e _ _ ha))
      refine ⟨xs, hq H (Same.refl _), p, _, rfl, hp, ⟨by omega, by omega⟩, fun r H' hS hr0 hr1 => ?_⟩
      obtain ⟨j, rfl⟩ := Int.eq_ofNat_of_zero_le hr0
      have hj : j < xs.length := by omega
      refine ⟨xs, hq H' hS, xs[j], atI_nat (by simp [hj]), q _ _ hS (List.getElem_mem hj)⟩
    · walk_at "go"
      refine ⟨by rw [sizeLine_eq]; omega, p, _, rfl, hp, ⟨by omega, by omega⟩, fun r H' hS hr0 hr1 => ?_⟩
      obtain ⟨j, rfl⟩ := Int.eq_ofNat_of_zero_le hr0
      have hj : j < (cd z).length := by rw [cd_len]; omega
      exact ⟨by rw [sizeLine_eq]; omega, (cd z)[j], atI_nat (show (cd z)[j]? = _ by simp [hj]), q _ _ hS (List.getElem_mem hj)⟩
theorem ok1__law_source (T : Tx K mg) : FnOk P w K mg base L2.CX0 lv__law_source T.f__law_source T.d__law_source p__law_source (spPot1 K) := by
  refine T.F__law_source.ok sc__law_source (fun vs H Q E h => ?_) (fun cdv A outer s H vs Q E hr h => ?_)
  · obtain ⟨a, ns, i, rfl, _⟩ := h
    rfl
  · obtain ⟨a, ns, i, rfl, hS, hn, hi, q⟩ := h
    refine ⟨_, (pss_cons (ps_set (i := 2) sc__law_source.nd rfl (by first | exact Or.inl rfl | exact Or.inr rfl) (pe_op op_addU pe_int (pe_op op_mul pe_int (pv 1))))
        (pss_cons (ps_for PassesOwn.never rfl (pi_listK (K := K) rfl (pe_slice (sl_K (K := K) rfl) (pv 0) po_none (po_some pe_int))) (pg_name (i := 3) sc__law_source.nd rfl (by first | exact Or.inl rfl | exact Or.inr rfl)) (pss_one (ps_set (i := 2) sc__law_source.nd rfl (by first | exact Or.inl rfl | exact Or.inr rfl) (pe_op op_mod (pe_callTy call_intU (by rfl) T.n_int (by decide +kernel) (pa_cons (pe_op op_addU (pe_op op_mul (pv 2) pe_int) (pv 3)) pa_nil)) pe_int))))
        (pss_cons (ps_set (i := 4) sc__law_source.nd rfl (by first | exact Or.inl rfl | exact Or.inr rfl) (pe_ifExp (pt_cmpR op_ltU (pv 1) (pe_callB (call_lenK (K := K) rfl) (by rfl) T.n_len (by decide +kernel) (pa_cons (pv 0) pa_nil)) (nomark _)) (pe_ix (ix_K (K := K) rfl) (pv 0) (pv 1) (fun _ _ => rfl)) (pv 2)))
        (pss_cons (ps_set (i := 2) sc__law_source.nd rfl (by first | exact Or.inl rfl | exact Or.inr rfl) (pe_op op_mod (pe_callTy call_intU (by rfl) T.n_int (by decide +kernel) (pa_cons (pe_op op_addU (pe_op op_mul (pv 2) pe_int) (pv 4)) pa_nil)) pe_int))
        (pss_one (ps_ret (pe_lst (pa_cons (pe_ifExp (pt_cmpR op_ge (pe_callB call_absU (by rfl) T.n_abs (by decide +kernel) (pa_cons (pv 4) pa_nil)) (pe_op op_pow pe_int pe_int) (nomark _)) (pe_callB call_absU (by rfl) T.n_abs (by decide +kernel) (pa_cons (pv 4) pa_nil)) pe_int) (pa_cons (pv 2) (pa_cons pe_int pa_nil)))))))))), ?_⟩
    walk_at "lx"
    refine ⟨.inl ⟨by decide, by decide⟩, adI ⟨_, sli_l hS, fun p1 np1 => ?_⟩⟩
    have e6 : cutV (ns.map V.int) none (some 6) = (ns.take 6).map V.int := by rw [List.map_take]; exact cutV_to _ 6
    rw [e6]
    have s1 := Same.new (o := .lst ((ns.take 6).map V.int)) np1
    refine forL (S := N0) upd_same (fun z => z) (fun j σ H' => Same H H' ∧ Ext N0 (upd H p1 (.lst ((ns.take 6).map V.int))) H' ∧ ∃ m u1 u2, σ = [some (.ref a), some (.int i), some (.int m), u1, u2]) ⟨s1, Ext.refl _, _, _, _, rfl⟩ (fun j σ' H' hI => hI.2.1) ?_ ?_
    · rintro j x σ' H' hx ⟨hS1, hE, m, u1, u2, rfl⟩
      rw [List.getElem?_map] at hx
      obtain ⟨z, _, rfl⟩ := Option.map_eq_some_iff.mp hx
      walk_at "lx"
      refine ⟨.inr ⟨by decide, by decide⟩, adI ?_⟩
      walk_at "lx"
      exact ⟨by decide, hS1, hE, _, _, _, rfl⟩
    · rintro σ' H' ⟨hS1, hE, m, u1, u2, rfl⟩
      have hS2 : SqL K H' a (ns.map V.int) := sql_sm hS hS1
      walk_at "lx"
      refine ⟨_, .inl hS2, ?_⟩
      rw [List.length_map]
      refine ite2 (fun c => ?_) (fun c => ?_)
      · have hz : ns[i]? = some ns[i] := by simp [show i < ns.length by omega]
        refine ⟨_, .int ns[i], .inl hS2, atI_nat (by rw [List.getElem?_map, hz]; rfl), ⟨.inr ⟨by decide, by decide⟩, adI ?_⟩⟩
        walk_at "lx"
        refine ⟨by decide, ⟨by decide, by decide, by decide⟩, ite2 (fun c2 => ⟨by decide, fun p hp => ?_⟩) (fun c2 => ⟨by decide, fun p hp => ?_⟩)⟩
        · exact q p _ _ _ _ (Same.snew hS1 hp) (Same.free hS1 hp) upd_same
        · exact q p _ _ _ _ (Same.snew hS1 hp) (Same.free hS1 hp) upd_same
      · refine ⟨.inr ⟨by decide, by decide⟩, adI ?_⟩
        walk_at "lx"
        refine ⟨by decide, ⟨by decide, by decide, by decide⟩, ite2 (fun c2 => ⟨by decide, fun p hp => ?_⟩) (fun c2 => ⟨by decide, fun p hp => ?_⟩)⟩
        · exact q p _ _ _ _ (Same.snew hS1 hp) (Same.free hS1 hp) upd_same
        · exact q p _ _ _ _ (Same.snew hS1 hp) (Same.free hS1 hp) upd_same
theorem ok__law_source (T : Tx K mg) : FnOk P w K mg base L2.CX0 lv__law_source T.f__law_source T.d__law_source p__law_source (spPot K) := fn_newPot (ok1__law_source T) rfl
/-- a stem: some signs, at least one -/
def spStem : Sp := fun vs H Q _ => ∃ (p : Addr) (n : Nat), vs = [.ref p, .int n] ∧ Pot H p ∧ 0 < n ∧ n ≤ 20 ∧ ∀ z H', Same H H' → okText n z = true → Q (.str z) H'
theorem ok__law_stem (T : Tx K mg) : FnOk P w K mg base L2.CX0 lv__law_stem T.f__law_stem T.d__law_stem p__law_stem spStem := by
  refine T.F__law_stem.ok sc__law_stem (fun vs H Q E h => ?_) (fun cdv A outer s H vs Q E hr h => ?_)
  · obtain ⟨p, n, rfl, _⟩ := h
    rfl
  · obtain ⟨p, n, rfl, hp, hn0, hn, q⟩ := h
    refine ⟨_, (pss_cons (ps_set (i := 2) sc__law_stem.nd rfl (by first | exact Or.inl rfl | exact Or.inr rfl) pe_str)
        (pss_one (ps_ret (pe_joinK (K := K) rfl pe_str (pe_lc (own := [("_law_k", 3)]) rfl sc__law_stem.nd (pi_range1 rfl T.n_range (pa_cons (pe_op op_addU pe_int (pe_call (ok__law_draw T) (hr.mono (by decide)) rfl T.m__law_draw T.F__law_draw.kp T.b__law_draw .nil pass0 (pa_cons (pv 0) (pa_cons (pv 1) pa_nil)))) pa_nil)) (blkOk_by (N := ["_law_source_here", "_law_size", "_law_abc", "_law_k"]) (sc := L2.defScope s__law_stem) (by decide +kernel)) (fun _ _ _ _ _ => (pg_name (i := 3) sc__law_stem.nd rfl (by first | exact Or.inl rfl | exact Or.inr rfl))) (fun _ _ _ _ _ => pts_nil) (fun _ _ _ _ _ => (pe_ix (ix_K (K := K) rfl) (pv 2) (pe_call (ok__law_draw T) (hr.mono (by decide)) rfl T.m__law_draw T.F__law_draw.kp T.b__law_draw .nil pass0 (pa_cons (pv 0) (pa_cons pe_int pa_nil))) (fun _ _ => rfl)))))))), ?_⟩
    walk_at "lx"
    refine ⟨⟨_, rfl⟩, ?_⟩
    refine ⟨p, n, rfl, hp, ⟨by omega, by omega⟩, fun r H1 S1 hr0 hr1 => adI ?_⟩
    obtain ⟨r, rfl⟩ := Int.eq_ofNat_of_zero_le hr0
    have hp1 := hp.sm S1
    refine lcR (by omega) (by omega) (fun i ds => ∃ l : List Nat, ds = l.map sgn ∧ l.length = i ∧ ∀ c ∈ l, c ∈ U.signs) ⟨[], rfl, rfl, fun _ h => by cases h⟩ ?_ ?_
    · rintro D0 hD i ds H' hi ⟨l, rfl, hl, hok⟩ hE x H2 ⟨rfl, rfl⟩ Ky Kn hy hn
      walk_at "lx"
      have hp2 : Pot H2 p := hp1.go hE (ne_fresh hp1 hD)
      refine ⟨p, _, rfl, hp2, ⟨by decide, by decide⟩, fun j H3 S3 hj0 hj1 => ?_⟩
      obtain ⟨j, rfl⟩ := Int.eq_ofNat_of_zero_le hj0
      have hj : j < 38 := by omega
      have hc : ∀ j, j < 38 → ∃ c, (cd (Str.ofString ".0123456789abcdefghijklmnopqrstuvwxyz~"))[j]? = some c ∧ c ∈ U.signs := by
        intro j hj
        have : ∀ j, j < 38 → ((cd (Str.ofString ".0123456789abcdefghijklmnopqrstuvwxyz~"))[j]?.map fun c => decide (c ∈ U.signs)) = some true := by decide +kernel
        obtain ⟨c, hc, h2⟩ := Option.map_eq_some_iff.mp (this j hj)
        exact ⟨c, hc, of_decide_eq_true h2⟩
      obtain ⟨c, hc, hcs⟩ := hc j hj
      refine ixS (by decide +kernel) (c := c) hc (by omega) ?_
      refine hy _ _ (sgn c) S3 (.str _) rfl ⟨l ++ [c], by rw [List.map_append]; rfl, by rw [List.length_append, hl]; rfl, fun t ht => ?_⟩
      rcases List.mem_append.mp ht with z | z
      · exact hok t z
      · rw [List.mem_singleton.mp z]
        exact hcs
    · rintro D0 hD H' ds ⟨l, rfl, hl, hok⟩ hlen S3 hv3
      obtain ⟨p3, xs3, e0, _, hp3, hs3⟩ := dt_lst hv3
      cases e0
      have e : l.map sgn = (l.map one).map D.str := by rw [List.map_map]; rfl
      rw [e] at hs3
      have e3 := hs3.strs_eq
      subst e3
      rw [List.map_map] at hp3
      refine joinL hp3 (by omega) (q _ _ (S1.trans S3) (okText_iff.mpr ⟨?_, by rw [cd_ofL]; exact hok⟩))
      rw [← cd_len, cd_ofL]
      omega
def spWord : Sp := fun vs H Q _ => ∃ (p : Addr) (v : V) (ss : List Str), vs = [.ref p, v] ∧ Pot H p ∧ Dt N0 H v (.lst (ss.map .str)) ∧ (∀ z ∈ ss, okText 12 z = true) ∧ 0 < ss.length ∧ ss.length < 100 ∧ ∀ z H', Same H H' → okText 200 z = true → Q (.str z) H'
theorem ok__law_word (T : Tx K mg) : FnOk P w K mg base L2.CX0 lv__law_word T.f__law_word T.d__law_word p__law_word spWord := by
  refine T.F__law_word.ok sc__law_word (fun vs H Q E h => ?_) (fun cdv A outer s H vs Q E hr h => ?_)
  · obtain ⟨p, v, ss, rfl, _⟩ := h
    rfl
  · obtain ⟨p, v, ss, rfl, hp, hv, hss, hl0, hl1, q⟩ := h
    have hr64 := hr.units
    refine ⟨_, (pss_cons (ps_par (i := 2) (j := 3) rfl sc__law_word.nd rfl rfl (by decide) rfl rfl (pa_cons (pe_call (ok__law_draw T) (hr.mono (by decide)) rfl T.m__law_draw T.F__law_draw.kp T.b__law_draw .nil pass0 (pa_cons (pv 0) (pa_cons pe_int pa_nil))) (pa_cons (pe_call (ok__law_one T) (hr.mono (by decide)) rfl T.m__law_one T.F__law_one.kp T.b__law_one .nil pass0 (pa_cons (pv 0) (pa_cons (pv 1) pa_nil))) pa_nil)) (by rfl))
        (pss_cons (ps_if (pt_cmpR op_ltU (pv 2) pe_int (nomark _)) (pss_one (ps_ret (pv 3))) pss_nil)
        (pss_cons (ps_if (pt_cmpR op_ltU (pv 2) pe_int (nomark _)) (pss_one (ps_ret (pe_op op_addU (pe_op op_addU (pv 3) pe_str) (pe_callTy call_str_int (by rfl) T.n_str (by decide +kernel) (pa_cons (pe_op op_addU pe_int (pe_call (ok__law_draw T) (hr.mono (by decide)) rfl T.m__law_draw T.F__law_draw.kp T.b__law_draw .nil pass0 (pa_cons (pv 0) (pa_cons pe_int pa_nil)))) pa_nil))))) pss_nil)
        (pss_cons (ps_if (pt_cmpR (op_eqK (K := K) rfl hr64) (pv 2) pe_int (nomark _)) (pss_one (ps_ret (pe_slice (sl_K (K := K) rfl) (pv 3) po_none (po_some (pe_call (ok__law_draw T) (hr.mono (by decide)) rfl T.m__law_draw T.F__law_draw.kp T.b__law_draw .nil pass0 (pa_cons (pv 0) (pa_cons (pe_op op_addU (pe_callB (call_lenK (K := K) rfl) (by rfl) T.n_len (by decide +kernel) (pa_cons (pv 3) pa_nil)) pe_int) pa_nil))))))) pss_nil)
        (pss_cons (ps_if (pt_cmpR (op_eqK (K := K) rfl hr64) (pv 2) pe_int (nomark _)) (pss_one (ps_ret (pe_slice (sl_K (K := K) rfl) (pe_op op_mulS (pv 3) pe_int) po_none (po_some (pe_call (ok__law_one T) (hr.mono (by decide)) rfl T.m__law_one T.F__law_one.kp T.b__law_one .nil pass0 (pa_cons (pv 0) (pa_cons (pe_lst (pa_cons pe_int (pa_cons pe_int (pa_cons pe_int (pa_cons pe_int pa_nil))))) pa_nil))))))) pss_nil)
        (pss_one (ps_ret (pe_ifExp (pt_cmpR (op_eqK (K := K) rfl hr64) (pv 2) pe_int (nomark _)) (pe_op op_addU (pv 3) (pe_call (ok__law_stem T) (hr.mono (by decide)) rfl T.m__law_stem T.F__law_stem.kp T.b__law_stem .nil pass0 (pa_cons (pv 0) (pa_cons pe_int pa_nil)))) (pe_call (ok__law_stem T) (hr.mono (by decide)) rfl T.m__law_stem T.F__law_stem.kp T.b__law_stem .nil pass0 (pa_cons (pv 0) (pa_cons pe_int pa_nil))))))))))), ?_⟩
    walk_at "lx"
    obtain ⟨a, xs, rfl, _, ha, hs⟩ := dt_lst hv
    have hxs := hs.strs_eq
    subst hxs
    refine ⟨p, 9, rfl, hp, ⟨by decide, by decide⟩, fun way H1 S1 hw0 hw1 => ?_⟩
    refine ⟨p, _, rfl, hp.sm S1, .inl ⟨a, _, rfl, .inl (S1 _ _ ha), by rw [List.length_map]; exact hl0, by rw [List.length_map]; omega, fun x H2 S2 hx => ?_⟩⟩
    obtain ⟨m, hm, rfl⟩ := List.mem_map.mp hx
    have hmo := hss m hm
    have S3 := S1.trans S2
    have hp3 := hp.sm S3
    have hml := (okText_iff.mp hmo).1
    walk_at "lx"
    refine ite2 (fun c => ?_) (fun c => ?_)
    · exact q m _ S3 (ok_mono hmo (by decide))
    refine ite2 (fun c => ?_) (fun c => ?_)
    · refine adS' hmo (show okText 1 (Str.ofString "~") = true by decide +kernel) (by decide) fun h1 => ?_
      refine ⟨p, 3, rfl, hp3, ⟨by decide, by decide⟩, fun r H4 S4 hr0 hr1 => adI ?_⟩
      walk_at "lx"
      refine ⟨_, rfl, til_sm (Q := fun z => rAddU (V.str (m ++ Str.ofString "~")) (V.str z) H4 Q) (by omega) (by omega) fun h2 => ?_⟩
      exact adS' h1 h2 (by decide) fun h3 => q _ _ (S3.trans S4) (ok_mono h3 (by decide))
    refine eqI ?_
    walk_at "lx"
    refine ite2 (fun c => ?_) (fun c => ?_)
    · refine ⟨by rw [sizeLine_eq]; omega, adI ⟨p, _, rfl, hp3, ⟨by omega, by omega⟩, fun r H4 S4 hr0 hr1 => ?_⟩⟩
      obtain ⟨r, rfl⟩ := Int.eq_ofNat_of_zero_le hr0
      walk_at "lx"
      refine ⟨by rw [sizeLine_eq]; omega, ?_⟩
      rw [cutS_to]
      refine q _ _ (S3.trans S4) (ok_mono (tkS_ok (n := r) hmo) (by omega))
    refine eqI ?_
    walk_at "lx"
    refine ite2 (fun c => ?_) (fun c => ?_)
    · refine ⟨m, 200, rfl, rfl, by omega, by decide, by decide, ?_⟩
      refine ⟨by decide, fun t nt => ?_⟩
      have S4 := Same.snew S3 (o := .lst [.int 40, .int 41, .int 199, .int 200]) nt
      refine ⟨p, _, rfl, hp.sm S4, .inl ⟨t, _, rfl, .inl upd_same, by decide, by decide, fun x H5 S5 hx => ?_⟩⟩
      obtain ⟨n, rfl, hn⟩ : ∃ n : Nat, x = .int n ∧ n ≤ 200 := by
        simp only [List.mem_cons, List.not_mem_nil, or_false] at hx
        rcases hx with rfl | rfl | rfl | rfl
        · exact ⟨40, rfl, by decide⟩
        · exact ⟨41, rfl, by decide⟩
        · exact ⟨199, rfl, by decide⟩
        · exact ⟨200, rfl, by decide⟩
      walk_at "lx"
      refine ⟨?_, ?_⟩
      · have := len_mul m 200
        rw [if_neg (by decide)] at this
        rw [sizeLine_eq]
        omega
      · rw [cutS_to]
        exact q _ _ (S4.trans S5) (ok_mono (cut_ok (mul_ok hmo)) hn)
    refine eqI ?_
    walk_at "lx"
    refine ite2 (fun c => ?_) (fun c => ?_)
    · refine ⟨p, 3, rfl, hp3, by decide, by decide, fun z H4 S4 hz => ?_⟩
      exact adS' hmo hz (by decide) fun h3 => q _ _ (S3.trans S4) (ok_mono h3 (by decide))
    · refine ⟨p, 12, rfl, hp3, by decide, by decide, fun z H4 S4 hz => ?_⟩
      exact q _ _ (S3.trans S4) (ok_mono hz (by decide))
end
end G


namespace G
open PySem PySem.Spec PyProof.Rows L2 U
section
variable {P : Program} {w : World} {K : PySem.W.Frag} {mg : Str → Option Value} {base : Heap}
def spIsInteger (K : PySem.W.Frag) : Sp := fun vs H Q _ => ∃ (v : V) (t : String), vs = [v] ∧ TyX K H v (.type t) ∧ t ∈ ["NoneType", "bool", "int", "str", "list", "tuple", "dict"] ∧ Q (.bl (t == "int")) H
theorem ok_is_integer (T : Tx K mg) : FnOk P w K mg base L2.CX0 lv_is_integer T.f_is_integer T.d_is_integer p_is_integer (spIsInteger K) := by
  refine T.F_is_integer.ok sc_is_integer (fun vs H Q E h => ?_) (fun cdv A outer s H vs Q E hr h => ?_)
  · obtain ⟨v, t, rfl, _⟩ := h
    rfl
  · obtain ⟨v, t, rfl, ty, ht, q⟩ := h
    refine ⟨_, (pss_one (ps_ret (pe_and (pe_callB (call_isiK (K := K) rfl) (by rfl) T.n_isinstance (by decide +kernel) (pa_cons (pv 0) (pa_cons (pe_bt "int" rfl T.n_int (by decide +kernel)) pa_nil))) (pe_one (pe_not (pe_callB (call_isiK (K := K) rfl) (by rfl) T.n_isinstance (by decide +kernel) (pa_cons (pv 0) (pa_cons (pe_bt "bool" rfl T.n_bool (by decide +kernel)) pa_nil)))))))), ?_⟩
    walk_at "go"
    simp only [List.mem_cons, List.not_mem_nil, or_false] at ht
    rcases ht with rfl | rfl | rfl | rfl | rfl | rfl | rfl
    · exact ⟨_, _, _, _, false, rfl, .ty _, ty, kit_ty (by decide +kernel), _, rfl, iteF q⟩
    · exact ⟨_, _, _, _, true, rfl, .ty _, ty, kit_ty (by decide +kernel), _, rfl, iteT ⟨_, _, _, _, true, rfl, .ty _, ty, kit_ty (by decide +kernel), _, rfl, q⟩⟩
    · exact ⟨_, _, _, _, true, rfl, .ty _, ty, kit_ty (by decide +kernel), _, rfl, iteT ⟨_, _, _, _, false, rfl, .ty _, ty, kit_ty (by decide +kernel), _, rfl, q⟩⟩
    · exact ⟨_, _, _, _, false, rfl, .ty _, ty, kit_ty (by decide +kernel), _, rfl, iteF q⟩
    · exact ⟨_, _, _, _, false, rfl, .ty _, ty, kit_ty (by decide +kernel), _, rfl, iteF q⟩
    · exact ⟨_, _, _, _, false, rfl, .ty _, ty, kit_ty (by decide +kernel), _, rfl, iteF q⟩
    · exact ⟨_, _, _, _, false, rfl, .ty _, ty, kit_ty (by decide +kernel), _, rfl, iteF q⟩
/-- is_text(v, n): of a text, of anything else -/
def spIsText (K : PySem.W.Frag) : Sp := fun vs H Q _ => ∃ (v : V) (n : Nat), vs = [v, .int n] ∧
  ((∃ z, v = .str z ∧ z.length ≤ 16777216 ∧ ∀ H', Same H H' → Q (.bl (okText n z)) H') ∨ ∃ t : String, TyX K H v (.type t) ∧ t ∈ ["NoneType", "bool", "int", "list", "tuple", "dict"] ∧ Q (.bl false) H)
theorem ok_is_text (T : Tx K mg) : FnOk P w K mg base L2.CX0 lv_is_text T.f_is_text T.d_is_text p_is_text (spIsText K) := by
  refine T.F_is_text.ok sc_is_text (fun vs H Q E h => ?_) (fun cdv A outer s H vs Q E hr h => ?_)
  · obtain ⟨v, n, rfl, _⟩ := h
    rfl
  · obtain ⟨v, n, rfl, h⟩ := h
    refine ⟨_, (pss_one (ps_ret (pe_and (pe_callB (call_isiK (K := K) rfl) (by rfl) T.n_isinstance (by decide +kernel) (pa_cons (pv 0) (pa_cons (pe_bt "str" rfl T.n_str (by decide +kernel)) pa_nil))) (pe_and (pe_cmpR op_le (pe_callB (call_lenK (K := K) rfl) (by rfl) T.n_len (by decide +kernel) (pa_cons (pv 0) pa_nil)) (pv 1) (nomark _)) (pe_one (pe_callB (cr_allK (K := K) rfl rfl) (by rfl) T.n_all (by decide +kernel) (pa_cons (pe_lc (own := [("sign", 2)]) rfl sc_is_text.nd (pi_str (pv 0)) (blkOk_by (N := ["value", "most", "sign"]) (sc := L2.defScope s_is_text) (by decide +kernel)) (fun _ _ _ _ _ => (pg_name (i := 2) sc_is_text.nd rfl (by first | exact Or.inl rfl | exact Or.inr rfl))) (fun _ _ _ _ _ => pts_nil) (fun _ _ _ _ _ => (pe_cmpR (op_inK (K := K) rfl) (pv 2) (C8.pe_gc rfl T.k_SIGNS) (by rfl)))) pa_nil))))))), ?_⟩
    walk_at "go"
    rcases h with ⟨z, rfl, hz, q⟩ | ⟨t, ty, ht, q⟩
    · refine ⟨_, _, _, _, true, rfl, .ty _, .base (.str _), kit_ty (by decide +kernel), _, rfl, iteT ?_⟩
      walk_at "go"
      refine ⟨Nat.le_trans hz (by decide), ?_⟩
      refine ite2 (fun c => ?_) (fun c => ?_)
      · refine lcS hz (fun i ds => ds = ((cd z).take i).map fun c => D.bl (isSign c)) (by simp) ?_ ?_
        · rintro D0 hD i ds H' hi rfl hE x H2 ⟨rfl, c, hc, rfl⟩ Ky Kn hy hn
          walk_at "go"
          refine ⟨c, rfl, hy _ _ _ (Same.refl _) (.bl _) rfl ?_⟩
          exact take_map (fun c => D.bl (isSign c)) (cd_get hc)
        · intro D0 hD H' ds hds hl hS hdt
          subst hds
          cases hdt with
          | lst _ ha hs =>
            rw [cd_size, List.take_length] at hs
            have e : (cd z).map (fun c => D.bl (isSign c)) = ((cd z).map isSign).map D.bl := by rw [List.map_map]; rfl
            rw [e] at hs
            have e2 := hs.bls_eq
            subst e2
            refine ⟨D0, _, rfl, SqL.of ha, ?_⟩
            have e3 : ((cd z).map isSign).all id = okText n z := by
              unfold okText
              have c' : z.length ≤ n := by exact_mod_cast c
              rw [decide_eq_true c', List.all_map]
              rfl
            rw [e3]
            exact q _ hS
      · have e3 : okText n z = false := by
          unfold okText
          have c' : ¬ z.length ≤ n := fun z => c (by exact_mod_cast z)
          rw [decide_eq_false c', Bool.false_and]
        rw [← e3]
        exact q _ (Same.refl _)
    · simp only [List.mem_cons, List.not_mem_nil, or_false] at ht
      rcases ht with rfl | rfl | rfl | rfl | rfl | rfl
      · exact ⟨_, _, _, _, false, rfl, .ty _, ty, kit_ty (by decide +kernel), _, rfl, iteF q⟩
      · exact ⟨_, _, _, _, false, rfl, .ty _, ty, kit_ty (by decide +kernel), _, rfl, iteF q⟩
      · exact ⟨_, _, _, _, false, rfl, .ty _, ty, kit_ty (by decide +kernel), _, rfl, iteF q⟩
      · exact ⟨_, _, _, _, false, rfl, .ty _, ty, kit_ty (by decide +kernel), _, rfl, iteF q⟩
      · exact ⟨_, _, _, _, false, rfl, .ty _, ty, kit_ty (by decide +kernel), _, rfl, iteF q⟩
      · exact ⟨_, _, _, _, false, rfl, .ty _, ty, kit_ty (by decide +kernel), _, rfl, iteF q⟩
end
end G


namespace G
open PySem PySem.Spec PyProof.Rows L2 U
section
variable {P : Program} {w : World} {K : PySem.W.Frag} {mg : Str → Option Value} {base : Heap}
/-- a number that is let -/
def spCheckNumber : Sp := fun vs H Q _ => ∃ n : Nat, vs = [.int n] ∧ n ≤ 40 ∧ Q .non H
theorem ok_check_number (T : Tx K mg) : FnOk P w K mg base L2.CX0 lv_check_number T.f_check_number T.d_check_number p_check_number spCheckNumber := by
  refine T.F_check_number.ok sc_check_number (fun vs H Q E h => ?_) (fun cdv A outer s H vs Q E hr h => ?_)
  · obtain ⟨n, rfl, _⟩ := h
    rfl
  · obtain ⟨n, rfl, hn, q⟩ := h
    refine ⟨_, (pss_one (ps_if (PW.pt (pw_or (pt_not (pt_val (pe_call (ok_is_integer T) (hr.mono (by decide)) rfl T.m_is_integer T.F_is_integer.kp T.b_is_integer .nil pass0 (pa_cons (pv 0) pa_nil)))) (pw_or1 (pt_not (pt_chain op_le op_le pe_int (pv 0) (C8.pe_gc rfl T.k_MOST_SIGNS)))))) (pss_one ps_never) pss_nil)), ?_⟩
    walk_at "go"
    refine ⟨_, "int", rfl, .base (.int _), by simp, true, rfl, ?_⟩
    have h1 : (0 : Int) ≤ (n : Int) := by omega
    have h2 : (n : Int) ≤ 40 := by omega
    simp only [h1, h2]
    walk_at "go"
    exact q
def spCheckText : Sp := fun vs H Q _ => ∃ z : Str, vs = [.str z] ∧ okText 200 z = true ∧ ∀ H', Same H H' → Q .non H'
theorem ok_check_text (T : Tx K mg) : FnOk P w K mg base L2.CX0 lv_check_text T.f_check_text T.d_check_text p_check_text spCheckText := by
  refine T.F_check_text.ok sc_check_text (fun vs H Q E h => ?_) (fun cdv A outer s H vs Q E hr h => ?_)
  · obtain ⟨n, rfl, _⟩ := h
    rfl
  · obtain ⟨z, rfl, hz, q⟩ := h
    refine ⟨_, (pss_one (ps_if (pt_not (pt_val (pe_call (ok_is_text T) (hr.mono (by decide)) rfl T.m_is_text T.F_is_text.kp T.b_is_text .nil pass0 (pa_cons (pv 0) (pa_cons (C8.pe_gc rfl T.k_MOST_TEXT) pa_nil))))) (pss_one ps_never) pss_nil)), ?_⟩
    walk_at "go"
    have h1 := (okText_iff.mp hz).1
    refine ⟨_, 200, rfl, .inl ⟨z, rfl, by omega, fun H' hS => ?_⟩⟩
    rw [hz]
    exact ⟨true, rfl, q _ hS⟩
/-- a new shortener -/
def spSh (C : Addr) : Sp := fun vs H Q _ => ∃ (x dx : Addr) (s : Sh), vs = [.ref x, .int s.limit, .int s.head, .int s.tail, .str s.mark] ∧ s.ok ∧ H x = some (.ins C dx []) ∧ ∀ H', Ext (fun a => a = x) H H' → Dt N0 H' (.ref x) (shD C s) → Q .non H'
theorem ok_Shortener___init__ (T : Tx K mg) : FnOk P w K mg base L2.CX0 lv_Shortener___init__ T.f_Shortener___init__ T.d_Shortener___init__ p_Shortener___init__ (spSh T.C_Shortener) := by
  refine T.F_Shortener___init__.ok sc_Shortener___init__ (fun vs H Q E h => ?_) (fun cdv A outer s H vs Q E hr h => ?_)
  · obtain ⟨x, dx, sh, rfl, _⟩ := h
    rfl
  · obtain ⟨x, dx, sh, rfl, hsh, hx, q⟩ := h
    obtain ⟨o1, o2, o3, o4⟩ := hsh
    refine ⟨_, (pss_cons (ps_expr (pe_call (ok_check_number T) (hr.mono (by decide)) rfl T.m_check_number T.F_check_number.kp T.b_check_number .nil pass0 (pa_cons (pv 1) pa_nil)))
        (pss_cons (ps_expr (pe_call (ok_check_number T) (hr.mono (by decide)) rfl T.m_check_number T.F_check_number.kp T.b_check_number .nil pass0 (pa_cons (pv 2) pa_nil)))
        (pss_cons (ps_expr (pe_call (ok_check_number T) (hr.mono (by decide)) rfl T.m_check_number T.F_check_number.kp T.b_check_number .nil pass0 (pa_cons (pv 3) pa_nil)))
        (pss_cons (ps_if (pt_not (pt_val (pe_call (ok_is_text T) (hr.mono (by decide)) rfl T.m_is_text T.F_is_text.kp T.b_is_text .nil pass0 (pa_cons (pv 4) (pa_cons (C8.pe_gc rfl T.k_MOST_MARK) pa_nil))))) (pss_one ps_never) pss_nil)
        (pss_cons (ps_fld (pv 0) (pv 1) rfl)
        (pss_cons (ps_fld (pv 0) (pv 2) rfl)
        (pss_cons (ps_fld (pv 0) (pv 3) rfl)
        (pss_cons (ps_fld (pv 0) (pv 4) rfl)
        (pss_one (ps_fld (pv 0) (pe_tup (pa_cons (pv 1) (pa_cons (pv 2) (pa_cons (pv 3) (pa_cons (pv 4) pa_nil))))) rfl)))))))))), ?_⟩
    walk_at "go"
    refine ⟨sh.limit, rfl, o1, sh.head, rfl, o2, sh.tail, rfl, o3, ?_⟩
    have h1 := (okText_iff.mp o4).1
    refine ⟨_, 3, rfl, .inl ⟨sh.mark, rfl, by omega, fun H1 hS => ?_⟩⟩
    rw [o4]
    refine ⟨true, rfl, ?_⟩
    walk_at "go"
    refine ⟨_, dx, [], hS _ _ hx, T.c_Shortener, T.na_Shortener_limit, by decide, ?_⟩
    rw [sh_f1]
    refine ⟨_, dx, _, upd_same, T.c_Shortener, T.na_Shortener_head, by show 1 < 1000; decide, ?_⟩
    rw [sh_f2, upd_upd]
    refine ⟨_, dx, _, upd_same, T.c_Shortener, T.na_Shortener_tail, by show 2 < 1000; decide, ?_⟩
    rw [sh_f3, upd_upd]
    refine ⟨_, dx, _, upd_same, T.c_Shortener, T.na_Shortener_mark, by show 3 < 1000; decide, ?_⟩
    rw [sh_f4, upd_upd]
    refine ⟨by show 4 ≤ sizeLine; decide, fun p hp => ?_⟩
    have nxp : x ≠ p := ne_of_none upd_same hp
    refine ⟨_, dx, _, (by rw [upd_ne nxp]; exact upd_same), T.c_Shortener, T.na_Shortener_told, by show 4 < 1000; decide, ?_⟩
    rw [sh_f5]
    rw [upd_ne nxp.symm] at hp
    refine q _ ?_ ?_
    · refine Ext.mut (Ext.new (Ext.mut (Ext.of hS) rfl) ?_) rfl
      rw [upd_ne nxp.symm]
      exact hp
    · refine dt_sh (fun z => z) upd_same ?_
      exact .tup (fun z => z) (by rw [upd_ne nxp.symm]; exact upd_same) (.cons (.int _) (.cons (.int _) (.cons (.int _) (.cons (.str _) .nil))))
end
end G


namespace G
open PySem PySem.Spec PyProof.Rows L2 U
section
variable {P : Program} {w : World} {K : PySem.W.Frag} {mg : Str → Option Value} {base : Heap}
def spCut (C : Addr) : Sp := fun vs H Q _ => ∃ (v l : V) (s : Sh) (ds : List D), vs = [v, l] ∧ s.ok ∧ Dt N0 H v (shD C s) ∧ Dt N0 H l (.lst ds) ∧ ds.length ≤ 4000000 ∧ ∀ r H', Same H H' → Dt N0 H' r (.lst (cutP sgn s ds)) → Q r H'
theorem ok_Shortener_cut (T : Tx K mg) : FnOk P w K mg base L2.CX0 lv_Shortener_cut T.f_Shortener_cut T.d_Shortener_cut p_Shortener_cut (spCut T.C_Shortener) := by
  refine T.F_Shortener_cut.ok sc_Shortener_cut (fun vs H Q E h => ?_) (fun cdv A outer s H vs Q E hr h => ?_)
  · obtain ⟨v, l, sh, ds, rfl, _⟩ := h
    rfl
  · obtain ⟨v, l, sh, ds, rfl, hsh, hv, hl, hz, q⟩ := h
    obtain ⟨a, rfl, dx, t, _, ha, ht⟩ := shF_of hv
    obtain ⟨p, xs, rfl, _, hp, hs⟩ := dt_lst hl
    have el := hs.length
    refine ⟨_, (pss_cons (ps_if (pt_cmpR op_le (pe_callB (call_lenK (K := K) rfl) (by rfl) T.n_len (by decide +kernel) (pa_cons (pv 1) pa_nil)) (pe_fldK (K := K) rfl (pv 0)) (nomark _)) (pss_one (ps_ret (pv 1))) pss_nil)
        (pss_one (ps_ret (pe_lst (pa_starK (K := K) rfl (pe_slice (sl_K (K := K) rfl) (pv 1) po_none (po_some (pe_fldK (K := K) rfl (pv 0)))) (pa_starK (K := K) rfl (pe_callTy (call_listK (K := K) rfl rfl) (by rfl) T.n_list (by decide +kernel) (pa_cons (pe_fldK (K := K) rfl (pv 0)) pa_nil)) (pa_starK (K := K) rfl (pe_slice (sl_K (K := K) rfl) (pv 1) (po_some (pe_callB (call_maxU rfl) (by rfl) T.n_max (by decide +kernel) (pa_cons pe_int (pa_cons (pe_op op_sub (pe_callB (call_lenK (K := K) rfl) (by rfl) T.n_len (by decide +kernel) (pa_cons (pv 1) pa_nil)) (pe_fldK (K := K) rfl (pv 0))) pa_nil)))) po_none) pa_nil))))))), ?_⟩
    walk_at "go"
    refine ⟨xs, .inl (SqL.of hp), _, dx, _, ha, T.c_Shortener, T.na_Shortener_limit, _, rfl, ?_⟩
    walk_at "go"
    refine ite2 (fun c => ?_) (fun c => ?_)
    · refine q _ _ (Same.refl _) ?_
      unfold cutP
      rw [if_pos (by omega)]
      exact hl
    · refine ⟨_, dx, _, ha, T.c_Shortener, T.na_Shortener_head, _, rfl, _, rfl, _, sli_l (SqL.of hp), fun p1 np1 => ?_⟩
      rw [cutV_to]
      have s1 : Same H (upd H p1 (.lst (xs.take sh.head))) := Same.new np1
      refine ⟨_, .inr (SqL.of upd_same), _, dx, _, s1 _ _ ha, T.c_Shortener, T.na_Shortener_mark, _, rfl, ?_⟩
      walk_at "go"
      have hm := (okText_iff.mp hsh.2.2.2).1
      refine ⟨by rw [sizeLine_eq]; omega, fun p2 np2 => ?_⟩
      have s2 := Same.snew s1 (o := .lst (signsV sh.mark)) np2
      refine ⟨_, .inr (SqL.of upd_same), xs, .inl (SqL.of (s2 _ _ hp)), _, dx, _, s2 _ _ ha, T.c_Shortener, T.na_Shortener_tail, _, rfl, ?_⟩
      walk_at "go"
      have e2 : (if ((xs.length : Int) - (sh.tail : Int) > 0) then ((xs.length : Int) - (sh.tail : Int)) else 0) = ((xs.length - sh.tail : Nat) : Int) := by
        split <;> omega
      refine ⟨_, sli_l (SqL.of (s2 _ _ hp)), fun p3 np3 => ?_⟩
      rw [e2, cutV_from]
      have s3 := Same.snew s2 (o := .lst (xs.drop (xs.length - sh.tail))) np3
      refine ⟨_, .inr (SqL.of upd_same), ?_, fun p4 np4 => ?_⟩
      · rw [sizeLine_eq, List.length_append, List.length_append, List.length_take, List.length_drop]
        have : (signsV sh.mark).length = sh.mark.length := by
          unfold signsV
          rw [List.length_map]
          exact cd_len _
        omega
      · have s4 := Same.snew s3 (o := .lst (xs.take sh.head ++ (signsV sh.mark ++ xs.drop (xs.length - sh.tail)))) np4
        refine q _ _ s4 ?_
        unfold cutP
        rw [if_neg (by omega), List.append_assoc, ← el]
        refine Dt.newL np4 ?_
        refine DtA.append ((hs.take _).sm s3) (DtA.append ?_ ((hs.drop _).sm s3))
        exact dt_signsV _
/-- a row that is let -/
def spCheckRow (C : Addr) : Sp := fun vs H Q _ => ∃ (v : V) (row : List Sh), vs = [v] ∧ Dt N0 H v (rowD C row) ∧ 1 ≤ row.length ∧ row.length ≤ 4 ∧ ∀ H', Same H H' → Q .non H'
theorem ok_check_row (T : Tx K mg) : FnOk P w K mg base L2.CX0 lv_check_row T.f_check_row T.d_check_row p_check_row (spCheckRow T.C_Shortener) := by
  refine T.F_check_row.ok sc_check_row (fun vs H Q E h => ?_) (fun cdv A outer s H vs Q E hr h => ?_)
  · obtain ⟨v, row, rfl, _⟩ := h
    rfl
  · obtain ⟨v, row, rfl, hv, h1, h4, q⟩ := h
    obtain ⟨p, xs, rfl, _, hp, hs⟩ := dt_tup hv
    have el := hs.length
    rw [List.length_map] at el
    refine ⟨_, (pss_cons (ps_if (PW.pt (pw_or (pt_not (pt_val (pe_callB (call_isiK (K := K) rfl) (by rfl) T.n_isinstance (by decide +kernel) (pa_cons (pv 0) (pa_cons (pe_bt "tuple" rfl T.n_tuple (by decide +kernel)) pa_nil))))) (pw_or1 (pt_not (pt_chain op_le op_le pe_int (pe_callB (call_lenK (K := K) rfl) (by rfl) T.n_len (by decide +kernel) (pa_cons (pv 0) pa_nil)) (C8.pe_gc rfl T.k_MOST_ROW)))))) (pss_one ps_never) pss_nil)
        (pss_one (ps_for PassesOwn.never rfl (pi_enumT (K := K) rfl rfl T.n_enumerate (pa_cons (pv 0) pa_nil)) (pg_tupK (K := K) (n := 2) rfl rfl (pgs_cons (pg_name (i := 1) sc_check_row.nd rfl (by first | exact Or.inl rfl | exact Or.inr rfl)) (pgs_cons (pg_name (i := 2) sc_check_row.nd rfl (by first | exact Or.inl rfl | exact Or.inr rfl)) pgs_nil))) (pss_one (ps_if (pt_not (pt_val (pe_callB (call_isiK (K := K) rfl) (by rfl) T.n_isinstance (by decide +kernel) (pa_cons (pv 2) (pa_cons (pe_gref rfl T.m_Shortener) pa_nil))))) (pss_one ps_never) pss_nil))))), ?_⟩
    walk_at "go"
    refine ⟨_, _, _, _, true, rfl, .ty _, .base (.tup hp), kit_ty (by decide +kernel), _, rfl, ?_⟩
    walk_at "go"
    refine ⟨xs, .inr (SqT.of hp), ?_⟩
    have c1 : (1 : Int) ≤ (xs.length : Int) := by omega
    have c2 : (xs.length : Int) ≤ 4 := by omega
    walk_at "go"
    simp only [c1, c2]
    walk_at "go"
    refine forE (S := N0) hp (fun z => z) (fun i σ H' => Same H H' ∧ ∃ u v, σ = [some (.ref p), u, v]) ⟨Same.refl _, _, _, rfl⟩ (fun i σ' H' hI => Ext.of hI.1) ?_ ?_
    · rintro i y σ' H' t hy ⟨hS, u, v, rfl⟩ hT
      obtain ⟨d, hd, hdy⟩ := hs.getV hy
      rw [List.getElem?_map] at hd
      obtain ⟨sh, _, rfl⟩ := Option.map_eq_some_iff.mp hd
      obtain ⟨a, rfl, dx, t', _, ha, ht⟩ := shF_of hdy
      have s1 := Same.snew hS (o := .tup [.int (i : Nat), .ref a]) hT
      refine ⟨t, _, rfl, SqT.of upd_same, rfl, ?_⟩
      walk_at "go"
      refine ⟨_, _, _, _, true, rfl, .own _, .base (.ins (s1 _ _ ha) T.c_Shortener T.i_Shortener.ha T.i_Shortener.hn T.i_Shortener.htk T.i_Shortener.hm), T.i_Shortener.me, _, rfl, ?_⟩
      walk_at "go"
      exact ⟨s1, _, _, rfl⟩
    · rintro σ' H' ⟨hS, u, v, rfl⟩
      exact q _ hS
def spCutBy (C : Addr) : Sp := fun vs H Q _ => ∃ (v l : V) (row : List Sh) (ds : List D), vs = [v, l] ∧ (∀ s ∈ row, s.ok) ∧ Dt N0 H v (rowD C row) ∧ Dt N0 H l (.lst ds) ∧ ds.length ≤ 4000000 ∧ ∀ r H', Same H H' → Dt N0 H' r (.lst (cutR sgn row ds)) → Q r H'
theorem ok_cut_by (T : Tx K mg) : FnOk P w K mg base L2.CX0 lv_cut_by T.f_cut_by T.d_cut_by p_cut_by (spCutBy T.C_Shortener) := by
  refine T.F_cut_by.ok sc_cut_by (fun vs H Q E h => ?_) (fun cdv A outer s H vs Q E hr h => ?_)
  · obtain ⟨v, l, row, ds, rfl, _⟩ := h
    rfl
  · obtain ⟨v, l, row, ds, rfl, hrow, hv, hl, hz, q⟩ := h
    obtain ⟨p, xs, rfl, _, hp, hs⟩ := dt_tup hv
    have el := hs.length
    rw [List.length_map] at el
    refine ⟨_, (pss_cons (ps_for PassesOwn.never rfl (pi_tupK (K := K) rfl (pv 0)) (pg_name (i := 2) sc_cut_by.nd rfl (by first | exact Or.inl rfl | exact Or.inr rfl)) (pss_one (ps_set (i := 1) sc_cut_by.nd rfl (by first | exact Or.inl rfl | exact Or.inr rfl) (pe_meth (pv 2) T.c_Shortener T.t_Shortener_cut (ok_Shortener_cut T) (hr.mono (by decide)) T.b_Shortener_cut .nil pass0 (pa_cons (pv 1) pa_nil)))))
        (pss_one (ps_ret (pv 1)))), ?_⟩
    walk_at "go"
    refine forT (S := N0) hp (fun z => z) (fun i σ H' => Same H H' ∧ ∃ u l', σ = [some (.ref p), some l', u] ∧ Dt N0 H' l' (.lst (cutR sgn (row.take i) ds))) ⟨Same.refl _, _, _, rfl, hl⟩ (fun i σ' H' hI => Ext.of hI.1) ?_ ?_
    · rintro i y σ' H' hy ⟨hS, u, l', rfl, hl'⟩
      obtain ⟨d, hd, hdy⟩ := hs.getV hy
      rw [List.getElem?_map] at hd
      obtain ⟨sh, hsh, rfl⟩ := Option.map_eq_some_iff.mp hd
      have hmem : sh ∈ row := List.mem_of_getElem? hsh
      have hdy' := hdy.sm hS
      obtain ⟨a, rfl, dx, t', _, ha, ht⟩ := shF_of hdy'
      walk_at "go"
      refine ⟨dx, _, ha, rfl, _, _, sh, _, rfl, hrow sh hmem, hdy', hl', ?_, fun r H2 hS2 hr2 => ?_⟩
      · exact cutR_le sgn (fun t ht => hrow t (List.mem_of_mem_take ht)) _ hz (by omega)
      · refine ⟨hS.trans hS2, _, _, rfl, ?_⟩
        rw [take_snoc hsh, cutR_snoc]
        exact hr2
    · rintro σ' H' ⟨hS, u, l', rfl, hl'⟩
      walk_at "go"
      rw [el, List.take_length] at hl'
      exact q _ _ hS hl'
def spShow (C : Addr) : Sp := fun vs H Q _ => ∃ (v : V) (row : List Sh) (z : Str), vs = [v, .str z] ∧ (∀ s ∈ row, s.ok) ∧ 1 ≤ row.length ∧ row.length ≤ 4 ∧ Dt N0 H v (rowD C row) ∧ okText 200 z = true ∧ ∀ H', Same H H' → Q (.str (showS row z)) H'
theorem ok_show (T : Tx K mg) : FnOk P w K mg base L2.CX0 lv_show T.f_show T.d_show p_show (spShow T.C_Shortener) := by
  refine T.F_show.ok sc_show (fun vs H Q E h => ?_) (fun cdv A outer s H vs Q E hr h => ?_)
  · obtain ⟨v, row, z, rfl, _⟩ := h
    rfl
  · obtain ⟨v, row, z, rfl, hrow, h1, h4, hv, hz, q⟩ := h
    refine ⟨_, (pss_cons (ps_expr (pe_call (ok_check_row T) (hr.mono (by decide)) rfl T.m_check_row T.F_check_row.kp T.b_check_row .nil pass0 (pa_cons (pv 0) pa_nil)))
        (pss_cons (ps_expr (pe_call (ok_check_text T) (hr.mono (by decide)) rfl T.m_check_text T.F_check_text.kp T.b_check_text .nil pass0 (pa_cons (pv 1) pa_nil)))
        (pss_one (ps_ret (pe_joinK (K := K) rfl pe_str (pe_call (ok_cut_by T) (hr.mono (by decide)) rfl T.m_cut_by T.F_cut_by.kp T.b_cut_by .nil pass0 (pa_cons (pv 0) (pa_cons (pe_callTy (call_listK (K := K) rfl rfl) (by rfl) T.n_list (by decide +kernel) (pa_cons (pv 1) pa_nil)) pa_nil)))))))), ?_⟩
    have hz1 := (okText_iff.mp hz).1
    walk_at "go"
    refine ⟨v, row, rfl, hv, h1, h4, fun H1 hS1 => ?_⟩
    refine ⟨z, rfl, hz, fun H2 hS2 => ?_⟩
    refine ⟨⟨_, rfl⟩, ?_⟩
    walk_at "go"
    refine ⟨by rw [sizeLine_eq]; omega, fun p np => ?_⟩
    have sS := Same.snew (hS1.trans hS2) (o := .lst (signsV z)) np
    refine ⟨v, _, row, (cd z).map sgn, rfl, hrow, hv.sm sS, Dt.newL np (dt_signsV z), ?_, fun r H3 hS3 hr3 => ?_⟩
    · rw [List.length_map, cd_len]
      omega
    · rw [cutR_sgn] at hr3
      obtain ⟨p3, xs3, rfl, _, hp3, hs3⟩ := dt_lst hr3
      have e : (showC row (cd z)).map sgn = ((showC row (cd z)).map one).map D.str := by rw [List.map_map]; rfl
      rw [e] at hs3
      have e3 := hs3.strs_eq
      subst e3
      have hle : (showC row (cd z)).length ≤ 200 := cutR_le id hrow _ (by rw [cd_len]; exact hz1) (by omega)
      refine ⟨_, p3, _, rfl, rfl, .inl (SqL.of hp3), ?_, ?_⟩
      · rw [List.map_map, List.length_map]
        have e4 : (showC row (cd z)).map ((fun x => x.length) ∘ one) = (showC row (cd z)).map fun _ => 1 := rfl
        rw [e4, sum_ones]
        show _ + _ * 0 ≤ _
        omega
      · rw [join_one1]
        exact q _ (sS.trans hS3)
end
end G


namespace G
open PySem PySem.Spec PyProof.Rows L2 U
section
variable {P : Program} {w : World} {K : PySem.W.Frag} {mg : Str → Option Value} {base : Heap}
def spNamer (C : Addr) : Sp := fun vs H Q _ => ∃ (x dx : Addr) (r : Ru) (wd : Nat), vs = [.ref x, .str r.str, .int wd] ∧ 6 ≤ wd ∧ wd ≤ 40 ∧ H x = some (.ins C dx []) ∧ ∀ H', Ext (fun a => a = x) H H' → Dt N0 H' (.ref x) (namerD C r wd) → Q .non H'
theorem ok_Namer___init__ (T : Tx K mg) : FnOk P w K mg base L2.CX0 lv_Namer___init__ T.f_Namer___init__ T.d_Namer___init__ p_Namer___init__ (spNamer T.C_Namer) := by
  refine T.F_Namer___init__.ok sc_Namer___init__ (fun vs H Q E h => ?_) (fun cdv A outer s H vs Q E hr h => ?_)
  · obtain ⟨x, dx, r, w, rfl, _⟩ := h
    rfl
  · obtain ⟨x, dx, r, wd, rfl, h6, h40, hx, q⟩ := h
    refine ⟨_, (pss_cons (ps_if (PW.pt (pw_or (pt_not (pt_val (pe_callB (call_isiK (K := K) rfl) (by rfl) T.n_isinstance (by decide +kernel) (pa_cons (pv 1) (pa_cons (pe_bt "str" rfl T.n_str (by decide +kernel)) pa_nil))))) (pw_or1 (pt_cmpR (op_ninK (K := K) rfl) (pv 1) (pe_gref rfl T.m_RULES) (by rfl))))) (pss_one ps_never) pss_nil)
        (pss_cons (ps_if (PW.pt (pw_or (pt_not (pt_val (pe_call (ok_is_integer T) (hr.mono (by decide)) rfl T.m_is_integer T.F_is_integer.kp T.b_is_integer .nil pass0 (pa_cons (pv 2) pa_nil)))) (pw_or1 (pt_not (pt_chain op_le op_le (C8.pe_gc rfl T.k_LEAST_WIDTH) (pv 2) (C8.pe_gc rfl T.k_MOST_SIGNS)))))) (pss_one ps_never) pss_nil)
        (pss_cons (ps_fld (pv 0) (pv 1) rfl)
        (pss_one (ps_fld (pv 0) (pv 2) rfl))))), ?_⟩
    walk_at "lx"
    refine ⟨_, _, _, _, true, rfl, .ty _, .base (.str _), kit_ty (by decide +kernel), _, rfl, ?_⟩
    walk_at "lx"
    refine ⟨_, .inr (T.q_RULES H), rfl, rfl, ?_⟩
    have hin : inV (V.str r.str) [V.str (Str.ofString "count"), V.str (Str.ofString "free"), V.str (Str.ofString "tight")] = true := by cases r <;> decide +kernel
    rw [hin]
    walk_at "lx"
    refine ⟨_, "int", rfl, .base (.int _), by simp, true, rfl, ?_⟩
    have c1 : (6 : Int) ≤ (wd : Int) := by omega
    have c2 : (wd : Int) ≤ 40 := by omega
    simp only [c1, c2]
    walk_at "lx"
    refine ⟨_, dx, _, hx, T.c_Namer, T.na_Namer_rule, by show 0 < 1000; decide, ?_⟩
    rw [nm_f1]
    refine ⟨_, dx, _, upd_same, T.c_Namer, T.na_Namer_width, by show 1 < 1000; decide, ?_⟩
    rw [nm_f2, upd_upd]
    exact q _ (Ext.mut (Ext.refl _) rfl) (dt_nm (fun z => z) upd_same)
def spBaseOf (C : Addr) : Sp := fun vs H Q _ => ∃ (v : V) (t : Str) (r : Ru) (wd : Nat), vs = [v, .str t] ∧ Dt N0 H v (namerD C r wd) ∧ t.length ≤ 4000000 ∧ Q (.str (tkS wd t)) H
theorem ok_Namer_base_of (T : Tx K mg) : FnOk P w K mg base L2.CX0 lv_Namer_base_of T.f_Namer_base_of T.d_Namer_base_of p_Namer_base_of (spBaseOf T.C_Namer) := by
  refine T.F_Namer_base_of.ok sc_Namer_base_of (fun vs H Q E h => ?_) (fun cdv A outer s H vs Q E hr h => ?_)
  · obtain ⟨v, t, r, wd, rfl, _⟩ := h
    rfl
  · obtain ⟨v, t, r, wd, rfl, hv, ht, q⟩ := h
    obtain ⟨a, dx, rfl, _, ha⟩ := nmF hv
    refine ⟨_, (pss_one (ps_ret (pe_slice (sl_K (K := K) rfl) (pv 1) po_none (po_some (pe_fldK (K := K) rfl (pv 0)))))), ?_⟩
    walk_at "lx"
    refine ⟨_, dx, _, ha, T.c_Namer, T.na_Namer_width, _, rfl, _, rfl, by rw [sizeLine_eq]; omega, ?_⟩
    rw [cutS_to]
    exact q
def spNumbered (C : Addr) : Sp := fun vs H Q _ => ∃ (v : V) (b : Str) (n : Nat) (r : Ru) (wd : Nat), vs = [v, .str b, .int n] ∧ Dt N0 H v (namerD C r wd) ∧ 6 ≤ wd ∧ b.length ≤ 4000000 ∧ n ≤ 9 ∧ Q (.str (numS r wd b n)) H
theorem ok_Namer_numbered (T : Tx K mg) : FnOk P w K mg base L2.CX0 lv_Namer_numbered T.f_Namer_numbered T.d_Namer_numbered p_Namer_numbered (spNumbered T.C_Namer) := by
  refine T.F_Namer_numbered.ok sc_Namer_numbered (fun vs H Q E h => ?_) (fun cdv A outer s H vs Q E hr h => ?_)
  · obtain ⟨v, b, n, r, wd, rfl, _⟩ := h
    rfl
  · obtain ⟨v, b, n, r, wd, rfl, hv, h6, hb, hn, q⟩ := h
    obtain ⟨a, dx, rfl, _, ha⟩ := nmF hv
    have hr64 := hr.units
    refine ⟨_, (pss_cons (ps_set (i := 3) sc_Namer_numbered.nd rfl (by first | exact Or.inl rfl | exact Or.inr rfl) (pe_joined (.cons pe_str (.cons (pe_fmt (pv 2)) .nil))))
        (pss_cons (ps_if (pt_cmpR (op_eqK (K := K) rfl hr64) (pe_fldK (K := K) rfl (pv 0)) pe_str (nomark _)) (pss_one (ps_set (i := 1) sc_Namer_numbered.nd rfl (by first | exact Or.inl rfl | exact Or.inr rfl) (pe_slice (sl_K (K := K) rfl) (pv 1) po_none (po_some (pe_op op_sub (pe_fldK (K := K) rfl (pv 0)) (pe_callB (call_lenK (K := K) rfl) (by rfl) T.n_len (by decide +kernel) (pa_cons (pv 3) pa_nil))))))) pss_nil)
        (pss_one (ps_ret (pe_op op_addU (pv 1) (pv 3)))))), ?_⟩
    walk_at "ly"
    refine fs_til rfl hn ?_
    have tl := til_len n hn
    refine fldC ha T.c_Namer T.na_Namer_rule rfl (eqS ?_)
    walk_at "ly"
    refine ite2 (fun c => ?_) (fun c => ?_)
    · refine fldC ha T.c_Namer T.na_Namer_width rfl (lenS (by omega) ⟨_, _, rfl, rfl, ?_⟩)
      cases r with
      | tight =>
        refine ⟨_, rfl, by rw [sizeLine_eq]; omega, ?_⟩
        rw [tl, show ((wd : Int) - ((2 : Nat) : Int)) = ((wd - 2 : Nat) : Int) by omega, cutS_to]
        refine adS ?_ q
        show (tkS (wd - 2) b).length + _ ≤ _
        rw [tkS_len, sizeLine_eq]
        omega
      | count => exact absurd c (by decide +kernel)
      | free => exact absurd c (by decide +kernel)
    · refine adS (by rw [sizeLine_eq]; omega) ?_
      cases r with
      | tight => exact absurd rfl c
      | count => exact q
      | free => exact q
def spNameFor (C : Addr) : Sp := fun vs H Q _ => ∃ (v th : V) (t : Str) (r : Ru) (wd : Nat) (l : List (Str × Str)), vs = [v, .str t, th] ∧ Dt N0 H v (namerD C r wd) ∧ 6 ≤ wd ∧ wd ≤ 40 ∧ okText 200 t = true ∧ Dt N0 H th (.lst (l.map pD)) ∧ l.length ≤ 7 ∧ (∀ p ∈ l, okText 200 p.1 = true ∧ okText 42 p.2 = true) ∧ ∀ H', Same H H' → Q (.str (nameF r wd t l)) H'
theorem ok_Namer_name_for (T : Tx K mg) : FnOk P w K mg base L2.CX0 lv_Namer_name_for T.f_Namer_name_for T.d_Namer_name_for p_Namer_name_for (spNameFor T.C_Namer) := by
  refine T.F_Namer_name_for.ok sc_Namer_name_for (fun vs H Q E h => ?_) (fun cdv A outer s H vs Q E hr h => ?_)
  · obtain ⟨v, th, t, r, wd, l, rfl, _⟩ := h
    rfl
  · obtain ⟨v, th, t, r, wd, l, rfl, hv, h6, h40, ht, hth, hl, hok, q⟩ := h
    obtain ⟨a, dx, rfl, _, ha⟩ := nmF hv
    have hr64 := hr.units
    refine ⟨_, (pss_cons (ps_set (i := 3) sc_Namer_name_for.nd rfl (by first | exact Or.inl rfl | exact Or.inr rfl) (pe_meth (pv 0) T.c_Namer T.t_Namer_base_of (ok_Namer_base_of T) (hr.mono (by decide)) T.b_Namer_base_of .nil pass0 (pa_cons (pv 1) pa_nil)))
        (pss_cons (ps_if (pt_cmpR (op_eqK (K := K) rfl hr64) (pe_fldK (K := K) rfl (pv 0)) pe_str (nomark _)) (pss_cons (ps_setLc (i := 4) (own := [("mate", 7), ("name", 8)]) rfl sc_Namer_name_for.nd rfl rfl (sw_true rfl rfl rfl (by decide +kernel)) (pi_listK (K := K) rfl (pv 2)) (blkOk_by (N := ["self", "text", "there", "base", "alike", "taken", "number", "mate", "name"]) (sc := L2.defScope s_Namer_name_for) (by decide +kernel)) (fun _ _ _ _ _ => (pg_tupK (K := K) (n := 2) rfl rfl (pgs_cons (pg_name (i := 7) sc_Namer_name_for.nd rfl (by first | exact Or.inl rfl | exact Or.inr rfl)) (pgs_cons (pg_name (i := 8) sc_Namer_name_for.nd rfl (by first | exact Or.inl rfl | exact Or.inr rfl)) pgs_nil)))) (fun _ _ _ _ _ => (pts_one (pt_cmpR (op_eqK (K := K) rfl hr64) (pe_meth (pv 0) T.c_Namer T.t_Namer_base_of (ok_Namer_base_of T) (hr.mono (by decide)) T.b_Namer_base_of .nil pass0 (pa_cons (pv 7) pa_nil)) (pv 3) (nomark _)))) (fun _ _ _ _ _ => (pv 7)))
        (pss_one (ps_ret (pe_ifExp (pt_cmpR (op_eqK (K := K) rfl hr64) (pe_callB (call_lenK (K := K) rfl) (by rfl) T.n_len (by decide +kernel) (pa_cons (pv 4) pa_nil)) pe_int (nomark _)) (pv 3) (pe_meth (pv 0) T.c_Namer T.t_Namer_numbered (ok_Namer_numbered T) (hr.mono (by decide)) T.b_Namer_numbered .nil pass0 (pa_cons (pv 3) (pa_cons (pe_op op_addU (pe_callB (call_lenK (K := K) rfl) (by rfl) T.n_len (by decide +kernel) (pa_cons (pv 4) pa_nil)) pe_int) pa_nil))))))) pss_nil)
        (pss_cons (ps_setLc (i := 5) (own := [("mate", 7), ("name", 8)]) rfl sc_Namer_name_for.nd rfl rfl (sw_true rfl rfl rfl (by decide +kernel)) (pi_listK (K := K) rfl (pv 2)) (blkOk_by (N := ["self", "text", "there", "base", "alike", "taken", "number", "mate", "name"]) (sc := L2.defScope s_Namer_name_for) (by decide +kernel)) (fun _ _ _ _ _ => (pg_tupK (K := K) (n := 2) rfl rfl (pgs_cons (pg_name (i := 7) sc_Namer_name_for.nd rfl (by first | exact Or.inl rfl | exact Or.inr rfl)) (pgs_cons (pg_name (i := 8) sc_Namer_name_for.nd rfl (by first | exact Or.inl rfl | exact Or.inr rfl)) pgs_nil)))) (fun _ _ _ _ _ => pts_nil) (fun _ _ _ _ _ => (pv 8)))
        (pss_cons (ps_if (pt_cmpR (op_ninK (K := K) rfl) (pv 3) (pv 5) (by rfl)) (pss_one (ps_ret (pv 3))) pss_nil)
        (pss_cons (ps_set (i := 6) sc_Namer_name_for.nd rfl (by first | exact Or.inl rfl | exact Or.inr rfl) (C8.pe_gc rfl T.k_FIRST_NUMBER))
        (pss_cons (ps_while PassesOwn.never (pt_cmpR (op_inK (K := K) rfl) (pe_meth (pv 0) T.c_Namer T.t_Namer_numbered (ok_Namer_numbered T) (hr.mono (by decide)) T.b_Namer_numbered .nil pass0 (pa_cons (pv 3) (pa_cons (pv 6) pa_nil))) (pv 5) (by rfl)) (pss_one (ps_aug (i := 6) sc_Namer_name_for.nd rfl (by first | exact Or.inl rfl | exact Or.inr rfl) pe_int ip_add)))
        (pss_one (ps_ret (pe_meth (pv 0) T.c_Namer T.t_Namer_numbered (ok_Namer_numbered T) (hr.mono (by decide)) T.b_Namer_numbered .nil pass0 (pa_cons (pv 3) (pa_cons (pv 6) pa_nil))))))))))), ?_⟩
    walk_at "ly"
    have hz := (okText_iff.mp ht).1
    obtain ⟨p, xs, rfl, _, hp, hs⟩ := dt_lst hth
    have el := hs.length
    rw [List.length_map] at el
    refine ⟨_, _, ha, rfl, _, _, r, wd, rfl, hv, by omega, ?_⟩
    have bo : okText 40 (tkS wd t) = true := ok_mono (tkS_ok ht) (by omega)
    refine fldC ha T.c_Namer T.na_Namer_rule rfl (eqS ?_)
    walk_at "ly"
    refine ite2 (fun c => ?_) (fun c => ?_)
    · refine lcL hp (by omega) (fun i ds => ds = ((l.take i).filter fun p => decide (tkS wd p.1 = tkS wd t)).map fun p => D.str p.1) rfl ?_ ?_
      · rintro D0 hD i ds H' hi rfl hE x H2 ⟨rfl, hx⟩ Ky Kn hy hn
        obtain ⟨d, hd, hdx⟩ := hs.getV hx
        rw [List.getElem?_map] at hd
        obtain ⟨pr, hpr, rfl⟩ := Option.map_eq_some_iff.mp hd
        obtain ⟨b, rfl, _, hb⟩ := dt_pD hdx
        have ha2 := hE _ _ (ne_fresh ha hD) ha
        have hv2 := hv.sm (hE.same hD)
        have hpo := hok pr (List.mem_of_getElem? hpr)
        have hpl := (okText_iff.mp hpo.1).1
        walk_at "ly"
        refine ⟨_, SqT.of (hE.same hD _ _ hb), rfl, ?_⟩
        walk_at "ly"
        refine ⟨_, _, ha2, rfl, _, _, r, wd, rfl, hv2, by omega, eqS ?_⟩
        walk_at "ly"
        have e := filter_snoc (p := fun p : Str × Str => decide (tkS wd p.1 = tkS wd t)) hpr
        refine ite2 (fun c2 => ?_) (fun c2 => ?_)
        · refine hy _ _ (.str pr.1) (Same.refl _) (.str _) rfl ?_
          show _ = List.map _ _
          rw [e, if_pos (decide_eq_true c2), List.map_append]
          rfl
        · refine hn _ (Same.refl _) ?_
          show _ = List.map _ _
          rw [e, if_neg (by simpa using c2), List.append_nil]
      · rintro D0 hD H' ds rfl hl2 hS hv2
        obtain ⟨p3, xs3, e0, _, hp3, hs3⟩ := dt_lst hv2
        cases e0
        have l3 := hs3.length
        rw [el, List.take_length, List.length_map] at l3
        have hf := List.length_filter_le (fun p : Str × Str => decide (tkS wd p.1 = tkS wd t)) l
        refine lenL hp3 (eqI ?_)
        have hr : r = .count := by
          cases r with
          | count => rfl
          | free => exact absurd c (by decide +kernel)
          | tight => exact absurd c (by decide +kernel)
        have qn := q _ hS
        subst hr
        unfold nameF at qn
        walk_at "ly"
        refine ite2 (fun c2 => ?_) (fun c2 => ?_)
        · rw [if_pos (by omega)] at qn
          exact qn
        · rw [if_neg (by omega)] at qn
          refine ⟨_, _, hS _ _ ha, rfl, lenL hp3 (adI ?_)⟩
          refine ⟨_, _, xs3.length + 1, .count, wd, rfl, hv.sm hS, h6, by have := (okText_iff.mp bo).1; omega, by omega, ?_⟩
          rw [l3]
          exact qn
    · refine lcL hp (by omega) (fun i ds => ds = ((l.take i).map (·.2)).map D.str) rfl ?_ ?_
      · rintro D0 hD i ds H' hi rfl hE x H2 ⟨rfl, hx⟩ Ky Kn hy hn
        obtain ⟨d, hd, hdx⟩ := hs.getV hx
        rw [List.getElem?_map] at hd
        obtain ⟨pr, hpr, rfl⟩ := Option.map_eq_some_iff.mp hd
        obtain ⟨b, rfl, _, hb⟩ := dt_pD hdx
        walk_at "ly"
        refine ⟨_, SqT.of (hE.same hD _ _ hb), rfl, ?_⟩
        walk_at "ly"
        refine hy _ _ (.str pr.2) (Same.refl _) (.str _) rfl ?_
        show _ = List.map _ (List.map _ _)
        rw [take_snoc hpr, List.map_append, List.map_append]
        rfl
      · rintro D0 hD H' ds rfl hl2 hS hv2
        obtain ⟨p3, xs3, e0, _, hp3, hs3⟩ := dt_lst hv2
        cases e0
        rw [el, List.take_length] at hs3
        have e3 := hs3.strs_eq
        subst e3
        refine ninL hp3 ?_
        have hr : ∀ H', Same H H' → Q (.str (if tkS wd t ∈ l.map (·.2) then numS r wd (tkS wd t) (nextN (l.map (·.2)) (numS r wd (tkS wd t)) l.length 2) else tkS wd t)) H' := by
          intro H' hS
          have qn := q H' hS
          unfold nameF at qn
          cases r with
          | count => exact absurd rfl c
          | free => exact qn
          | tight => exact qn
        walk_at "ly"
        refine ite2 (fun c2 => ?_) (fun c2 => ?_)
        · have qn := hr _ hS
          rw [if_neg c2] at qn
          exact qn
        · have c2 := Decidable.not_not.mp c2
          refine ⟨fun m σ H2 => ∃ n : Nat, m = l.length + 2 - n ∧ 2 ≤ n ∧ n ≤ l.length + 2 ∧ Same H' H2 ∧ σ = [some (.ref a), some (.str t), some (.ref p), some (.str (tkS wd t)), none, some (.ref D0), some (.int n), none, none] ∧ ∀ j, 2 ≤ j → j < n → numS r wd (tkS wd t) j ∈ l.map (·.2),
            ⟨_, 2, rfl, by omega, by omega, Same.refl _, rfl, fun j h1 h2 => by omega⟩, ?_⟩
          rintro m σ H2 ⟨n, rfl, n2, nl, S2, rfl, hj⟩
          have S3 := hS.trans S2
          walk_at "ly"
          refine ⟨_, _, S3 _ _ ha, rfl, _, _, n, r, wd, rfl, hv.sm S3, h6, by have := (okText_iff.mp bo).1; omega, by omega, inL (S2 _ _ hp3) ?_⟩
          walk_at "ly"
          refine ite2 (fun c3 => ?_) (fun c3 => ?_)
          · have hn : n ≤ l.length + 1 := by
              by_cases z : n = l.length + 2
              · exfalso
                refine pig (tk := l.map (·.2)) (f := numS r wd (tkS wd t)) (fun i j hi hj e => ?_) (fun j h1 h2 => ?_)
                · rw [List.length_map] at hi hj
                  exact numS_one (by omega) (by omega) e
                · rw [List.length_map] at h2
                  by_cases y : j = n
                  · rw [y]; exact c3
                  · exact hj j h1 (by omega)
              · omega
            refine ⟨fun σ' H3 => Same H' H3 ∧ σ' = [some (.ref a), some (.str t), some (.ref p), some (.str (tkS wd t)), none, some (.ref D0), some (.int (n + 1 : Nat)), none, none], ?_, ?_⟩
            · rintro σ' H3 ⟨S4, rfl⟩
              refine ⟨_, by omega, n + 1, rfl, by omega, by omega, S4, rfl, fun j h1 h2 => ?_⟩
              by_cases y : j = n
              · rw [y]; exact c3
              · exact hj j h1 (by omega)
            · walk_at "ly"
              exact ⟨_, rfl, _, _, rfl, rfl, S2, by rw [show ((n + 1 : Nat) : Int) = (n : Int) + 1 by omega]; rfl⟩
          · refine ⟨_, _, S3 _ _ ha, rfl, _, _, n, r, wd, rfl, hv.sm S3, h6, by have := (okText_iff.mp bo).1; omega, by omega, ?_⟩
            have qn := hr _ S3
            rw [if_pos c2, nextN_eq c3 l.length 2 n2 (by omega) hj] at qn
            exact qn
def spCheckNamer (C : Addr) : Sp := fun vs H Q _ => ∃ (v : V) (r : Ru) (wd : Nat), vs = [v] ∧ Dt N0 H v (namerD C r wd) ∧ Q .non H
theorem ok_check_namer (T : Tx K mg) : FnOk P w K mg base L2.CX0 lv_check_namer T.f_check_namer T.d_check_namer p_check_namer (spCheckNamer T.C_Namer) := by
  refine T.F_check_namer.ok sc_check_namer (fun vs H Q E h => ?_) (fun cdv A outer s H vs Q E hr h => ?_)
  · obtain ⟨v, r, wd, rfl, _⟩ := h
    rfl
  · obtain ⟨v, r, wd, rfl, hv, q⟩ := h
    obtain ⟨a, dx, rfl, _, ha⟩ := nmF hv
    refine ⟨_, (pss_one (ps_if (pt_not (pt_val (pe_callB (call_isiK (K := K) rfl) (by rfl) T.n_isinstance (by decide +kernel) (pa_cons (pv 0) (pa_cons (pe_gref rfl T.m_Namer) pa_nil))))) (pss_one ps_never) pss_nil)), ?_⟩
    walk_at "ly"
    refine ⟨_, _, _, _, true, rfl, .own _, .base (.ins ha T.c_Namer T.i_Namer.ha T.i_Namer.hn T.i_Namer.htk T.i_Namer.hm), T.i_Namer.me, _, rfl, ?_⟩
    walk_at "ly"
    exact q
def spCheckTexts : Sp := fun vs H Q _ => ∃ (v : V) (l : List Str), vs = [v] ∧ Dt N0 H v (.tup (l.map D.str)) ∧ l.length ≤ 6 ∧ (∀ z ∈ l, okText 200 z = true) ∧ ∀ H', Same H H' → Q .non H'
theorem ok_check_texts (T : Tx K mg) : FnOk P w K mg base L2.CX0 lv_check_texts T.f_check_texts T.d_check_texts p_check_texts spCheckTexts := by
  refine T.F_check_texts.ok sc_check_texts (fun vs H Q E h => ?_) (fun cdv A outer s H vs Q E hr h => ?_)
  · obtain ⟨v, l, rfl, _⟩ := h
    rfl
  · obtain ⟨v, l, rfl, hv, hl, hok, q⟩ := h
    obtain ⟨p, xs, rfl, _, hp, hs⟩ := dt_tup hv
    have hxs := hs.strs_eq
    subst hxs
    refine ⟨_, (pss_cons (ps_if (PW.pt (pw_or (pt_not (pt_val (pe_callB (call_isiK (K := K) rfl) (by rfl) T.n_isinstance (by decide +kernel) (pa_cons (pv 0) (pa_cons (pe_bt "tuple" rfl T.n_tuple (by decide +kernel)) pa_nil))))) (pw_or1 (pt_cmpR op_gt (pe_callB (call_lenK (K := K) rfl) (by rfl) T.n_len (by decide +kernel) (pa_cons (pv 0) pa_nil)) (C8.pe_gc rfl T.k_MOST_LISTED) (nomark _))))) (pss_one ps_never) pss_nil)
        (pss_one (ps_for PassesOwn.never rfl (pi_enumT (K := K) rfl rfl T.n_enumerate (pa_cons (pv 0) pa_nil)) (pg_tupK (K := K) (n := 2) rfl rfl (pgs_cons (pg_name (i := 1) sc_check_texts.nd rfl (by first | exact Or.inl rfl | exact Or.inr rfl)) (pgs_cons (pg_name (i := 2) sc_check_texts.nd rfl (by first | exact Or.inl rfl | exact Or.inr rfl)) pgs_nil))) (pss_one (ps_if (pt_not (pt_val (pe_call (ok_is_text T) (hr.mono (by decide)) rfl T.m_is_text T.F_is_text.kp T.b_is_text .nil pass0 (pa_cons (pv 2) (pa_cons (C8.pe_gc rfl T.k_MOST_TEXT) pa_nil))))) (pss_one ps_never) pss_nil))))), ?_⟩
    walk_at "ly"
    refine ⟨_, _, _, _, true, rfl, .ty _, .base (.tup hp), kit_ty (by decide +kernel), _, rfl, ?_⟩
    walk_at "ly"
    refine lenT hp ?_
    walk_at "ly"
    rw [List.length_map]
    refine ite2 (fun c => absurd c (by omega)) (fun _ => ?_)
    refine forE (S := N0) hp (fun z => z) (fun i σ H' => Same H H' ∧ ∃ u v, σ = [some (.ref p), u, v]) ⟨Same.refl _, _, _, rfl⟩ (fun i σ' H' hI => Ext.of hI.1) ?_ ?_
    · rintro i y σ' H' t hy ⟨hS, u, v, rfl⟩ hT
      rw [List.getElem?_map] at hy
      obtain ⟨z, hz, rfl⟩ := Option.map_eq_some_iff.mp hy
      have s1 := Same.snew hS (o := .tup [.int (i : Nat), .str z]) hT
      refine ⟨t, _, rfl, SqT.of upd_same, rfl, ?_⟩
      walk_at "ly"
      have hzo := hok z (List.mem_of_getElem? hz)
      have hz1 := (okText_iff.mp hzo).1
      refine ⟨_, 200, rfl, .inl ⟨z, rfl, by omega, fun H1 hS1 => ?_⟩⟩
      rw [hzo]
      refine ⟨true, rfl, ?_⟩
      walk_at "ly"
      exact ⟨s1.trans hS1, _, _, rfl⟩
    · rintro σ' H' ⟨hS, u, v, rfl⟩
      exact q _ hS
def spNamesOf (C : Addr) : Sp := fun vs H Q _ => ∃ (v u : V) (r : Ru) (wd : Nat) (l : List Str), vs = [v, u] ∧ Dt N0 H v (namerD C r wd) ∧ 6 ≤ wd ∧ wd ≤ 40 ∧ Dt N0 H u (.tup (l.map D.str)) ∧ l.length ≤ 7 ∧ (∀ z ∈ l, okText 200 z = true) ∧ ∀ p H', Same H H' → H' p = some (.lst ((namesF r wd l).map V.str)) → Q (.ref p) H'
theorem ok_names_of (T : Tx K mg) : FnOk P w K mg base L2.CX0 lv_names_of T.f_names_of T.d_names_of p_names_of (spNamesOf T.C_Namer) := by
  refine T.F_names_of.ok sc_names_of (fun vs H Q E h => ?_) (fun cdv A outer s H vs Q E hr h => ?_)
  · obtain ⟨v, u, r, wd, l, rfl, _⟩ := h
    rfl
  · obtain ⟨v, u, r, wd, l, rfl, hv, h6, h40, hu, hl, hok, q⟩ := h
    obtain ⟨p, xs, rfl, _, hp, hs⟩ := dt_tup hu
    have hxs := hs.strs_eq
    subst hxs
    obtain ⟨a, dx, rfl, _, ha⟩ := nmF hv
    refine ⟨_, (pss_cons (ps_set (i := 2) sc_names_of.nd rfl (by first | exact Or.inl rfl | exact Or.inr rfl) (pe_lst pa_nil))
        (pss_cons (ps_for PassesOwn.never rfl (pi_tupK (K := K) rfl (pv 1)) (pg_name (i := 3) sc_names_of.nd rfl (by first | exact Or.inl rfl | exact Or.inr rfl)) (pss_one (ps_expr (pe_bm PySem.F.plainAttrs_list PySem.F.slot_list_append PySem.F.type_list_append mt_append (pv 2) (pa_cons (pe_tup (pa_cons (pv 3) (pa_cons (pe_meth (pv 0) T.c_Namer T.t_Namer_name_for (ok_Namer_name_for T) (hr.mono (by decide)) T.b_Namer_name_for .nil pass0 (pa_cons (pv 3) (pa_cons (pv 2) pa_nil))) pa_nil))) pa_nil)))))
        (pss_one (ps_ret (pe_lc (own := [("text", 3), ("name", 4)]) rfl sc_names_of.nd (pi_listK (K := K) rfl (pv 2)) (blkOk_by (N := ["namer", "texts", "there", "text", "name"]) (sc := L2.defScope s_names_of) (by decide +kernel)) (fun _ _ _ _ _ => (pg_tupK (K := K) (n := 2) rfl rfl (pgs_cons (pg_name (i := 3) sc_names_of.nd rfl (by first | exact Or.inl rfl | exact Or.inr rfl)) (pgs_cons (pg_name (i := 4) sc_names_of.nd rfl (by first | exact Or.inl rfl | exact Or.inr rfl)) pgs_nil)))) (fun _ _ _ _ _ => pts_nil) (fun _ _ _ _ _ => (pv 4))))))), ?_⟩
    walk_at "ly"
    refine ⟨by decide, fun L nL => ?_⟩
    have S1 := Same.new (o := .lst []) nL
    have npL : ¬ p = L := ne_of_none hp nL
    refine forT (S := fun a => a = L) (S1 _ _ hp) npL (fun i σ H' => Ext (fun a => a = L) (upd H L (.lst [])) H' ∧ (∃ vs, H' L = some (.lst vs) ∧ DtA (fun a => a = L) H' vs ((thF r wd (l.take i)).map pD)) ∧ ∃ u3 u4, σ = [some (.ref a), some (.ref p), some (.ref L), u3, u4])
      ⟨Ext.refl _, ⟨[], upd_same, .nil⟩, _, _, rfl⟩ (fun i σ' H' hI => hI.1) ?_ ?_
    · rintro i y σ' H' hy ⟨hE, ⟨vs, hL, hvs⟩, u3, u4, rfl⟩
      rw [List.getElem?_map] at hy
      obtain ⟨z, hz, rfl⟩ := Option.map_eq_some_iff.mp hy
      have S2 : Same H H' := Ext.same ((Ext.of S1).trans hE) nL
      have hzo := hok z (List.mem_of_getElem? hz)
      have tl := thF_len r wd (l.take i).length _ rfl
      have tok := thF_ok (r := r) h40 hok (by omega) i
      have hvl := hvs.length
      rw [List.length_map, tl, List.length_take] at hvl
      walk_at "ly"
      refine ⟨.inl ⟨rfl, _, SqL.of hL⟩, ?_⟩
      refine ⟨_, _, S2 _ _ ha, rfl, _, _, z, r, wd, _, rfl, hv.sm S2, h6, h40, hzo, .lst (fun z => z) hL hvs.n0, by rw [tl, List.length_take]; omega, tok, fun H3 S3 => ?_⟩
      refine ⟨by decide, fun tp ntp => ?_⟩
      have hL3 := (S3.trans (Same.new (o := .tup [.str z, .str (nameF r wd z (thF r wd (l.take i)))]) ntp)) _ _ hL
      have ntL : ¬ tp = L := fun e => ne_of_none (S3 _ _ hL) ntp e.symm
      refine ⟨L, _, _, rfl, rfl, hL3, by rw [sizeLine_eq]; omega, ?_⟩
      have E2 : Ext (fun a => a = L) H' (upd (upd H3 tp (.tup [.str z, .str (nameF r wd z (thF r wd (l.take i)))])) L (.lst (vs ++ [.ref tp]))) := Ext.mut (Ext.new (Ext.of S3) ntp) rfl
      refine ⟨hE.trans E2, ⟨_, upd_same, ?_⟩, _, _, rfl⟩
      rw [thF_take hz, List.map_append]
      refine DtA.append (hvs.go E2) (.cons (.tup ntL (by rw [upd_ne ntL]; exact upd_same) (.cons (.str _) (.cons (.str _) .nil))) .nil)
    · rintro σ' H' ⟨hE, ⟨vs, hL, hvs⟩, u3, u4, rfl⟩
      have S2 : Same H H' := Ext.same ((Ext.of S1).trans hE) nL
      rw [List.length_map, List.take_length] at hvs
      have hvn := hvs.n0
      have hvl := hvs.length
      have tl := thF_len r wd l.length _ rfl
      rw [List.length_map, tl] at hvl
      walk_at "ly"
      refine lcL hL (by omega) (fun i ds => ds = (((thF r wd l).take i).map (·.2)).map D.str) rfl ?_ ?_
      · rintro D0 hD i ds H3 hi rfl hE3 x H2 ⟨rfl, hx⟩ Ky Kn hy hn
        obtain ⟨d, hd, hdx⟩ := hvn.getV hx
        rw [List.getElem?_map] at hd
        obtain ⟨pr, hpr, rfl⟩ := Option.map_eq_some_iff.mp hd
        obtain ⟨b, rfl, _, hb⟩ := dt_pD hdx
        walk_at "ly"
        refine ⟨_, SqT.of (hE3.same hD _ _ hb), rfl, ?_⟩
        walk_at "ly"
        refine hy _ _ (.str pr.2) (Same.refl _) (.str _) rfl ?_
        show _ = List.map _ (List.map _ _)
        rw [take_snoc hpr, List.map_append, List.map_append]
        rfl
      · rintro D0 hD H3 ds rfl hl2 hS hv2
        obtain ⟨p3, xs3, e0, _, hp3, hs3⟩ := dt_lst hv2
        cases e0
        rw [hvl, ← tl, List.take_length] at hs3
        have e3 := hs3.strs_eq
        subst e3
        exact q _ _ (S2.trans hS) hp3
def spNames (C : Addr) : Sp := fun vs H Q _ => ∃ (v u : V) (r : Ru) (wd : Nat) (l : List Str), vs = [v, u] ∧ Dt N0 H v (namerD C r wd) ∧ 6 ≤ wd ∧ wd ≤ 40 ∧ Dt N0 H u (.tup (l.map D.str)) ∧ l.length ≤ 6 ∧ (∀ z ∈ l, okText 200 z = true) ∧ ∀ p H', Same H H' → H' p = some (.tup ((namesF r wd l).map V.str)) → Q (.ref p) H'
theorem ok_names (T : Tx K mg) : FnOk P w K mg base L2.CX0 lv_names T.f_names T.d_names p_names (spNames T.C_Namer) := by
  refine T.F_names.ok sc_names (fun vs H Q E h => ?_) (fun cdv A outer s H vs Q E hr h => ?_)
  · obtain ⟨v, u, r, wd, l, rfl, _⟩ := h
    rfl
  · obtain ⟨v, u, r, wd, l, rfl, hv, h6, h40, hu, hl, hok, q⟩ := h
    refine ⟨_, (pss_cons (ps_expr (pe_call (ok_check_namer T) (hr.mono (by decide)) rfl T.m_check_namer T.F_check_namer.kp T.b_check_namer .nil pass0 (pa_cons (pv 0) pa_nil)))
        (pss_cons (ps_expr (pe_call (ok_check_texts T) (hr.mono (by decide)) rfl T.m_check_texts T.F_check_texts.kp T.b_check_texts .nil pass0 (pa_cons (pv 1) pa_nil)))
        (pss_one (ps_ret (pe_tupOfK (K := K) rfl rfl T.n_tuple (pe_call (ok_names_of T) (hr.mono (by decide)) rfl T.m_names_of T.F_names_of.kp T.b_names_of .nil pass0 (pa_cons (pv 0) (pa_cons (pv 1) pa_nil)))))))), ?_⟩
    walk_at "ly"
    refine ⟨v, r, wd, rfl, hv, u, l, rfl, hu, hl, hok, fun H1 S1 => ?_⟩
    refine ⟨v, u, r, wd, l, rfl, hv.sm S1, h6, h40, hu.sm S1, by omega, hok, fun p2 H2 S2 hp2 => ?_⟩
    walk_at "ly"
    exact .inl ⟨_, SqL.of hp2, fun y ny => q y _ (Same.snew (S1.trans S2) ny) upd_same⟩
end
end G


namespace G
open PySem PySem.Spec PyProof.Rows L2 U
section
variable {P : Program} {w : World} {K : PySem.W.Frag} {mg : Str → Option Value} {base : Heap}
/-- names(namer, texts) != a tuple that is written -/
theorem nmChk {C : Addr} {H : Hp} {v u : V} {r : Ru} {wd n : Nat} {l rs : List Str} {Gk : VK} (hv : Dt N0 H v (namerD C r wd)) (h6 : 6 ≤ wd) (h40 : wd ≤ 40) (hu : Dt N0 H u (.tup (l.map D.str))) (hl : l.length ≤ 6) (hok : ∀ z ∈ l, okText 200 z = true)
    (e : namesF r wd l = rs) (hn : n ≤ 100) (q : ∀ H', Same H H' → Gk (.bl false) H') : spNames C [v, u] H (fun x H1 => n ≤ sizeLine ∧ ∀ p, H1 p = none → rNeU K x (.ref p) (upd H1 p (.tup (rs.map V.str))) Gk) E0 := by
  subst e
  refine ⟨v, u, r, wd, l, rfl, hv, h6, h40, hu, hl, hok, fun pn Hb Sb hpn => ⟨by rw [sizeLine_eq]; omega, fun t nt => ?_⟩⟩
  exact ne_sameP (dt_tstrs (Same.new nt _ _ hpn)) (dt_tstrs upd_same) (strs_ok (namesF_ok h40 hok (by omega))).tuple (by decide) (q _ (Same.snew Sb nt))
end
end G


namespace G
open PySem PySem.Spec PyProof.Rows L2 U
section
variable {P : Program} {w : World} {K : PySem.W.Frag} {mg : Str → Option Value} {base : Heap}
/-- what each law's own judge promises: True, from its list of three ints -/
def spRight : Sp := fun vs H Q _ => ∃ p : Addr, vs = [.ref p] ∧ Pot H p ∧ ∀ H', Same H H' → Q (.bl true) H'
/-- all([_law_right(pot(script, k)) for k in range(n)]) -/
theorem law_all {a : Addr} {ns : List Int} {H : Hp} {Q : VK} {n : Int} (hS : SqL K H a (ns.map V.int)) (hl : ns.length ≤ 63) (h0 : 0 ≤ n) (h1 : n ≤ 63) (q : ∀ H' : Hp, Q (V.bl true) H') :
    rLcR (gName 1) tYes (tCall spRight [] E0 (tCons (tCall (spPot K) [] E0 (tCons (tVar 0) (tCons (tVar 1) tNil))) tNil)) [1] [some (V.ref a), none] (fun x H1 => rAll K [x] H1 Q) [V.int n] H := by
  refine lcR (by omega) (by omega) (fun i ds => ds = List.replicate i (.bl true)) rfl ?_ ?_
  · rintro D0 hD i ds H' hi rfl hE x H2 ⟨rfl, rfl⟩ Ky Kn hy hn
    walk_at "go"
    have hS2 : SqL K H2 a (ns.map V.int) := sql_sm hS (hE.same hD)
    refine ⟨a, ns, i, rfl, hS2, hl, by omega, fun p H3 e3 hp => ?_⟩
    walk_at "go"
    exact ⟨p, rfl, hp, fun H4 e4 => hy _ _ (.bl true) (e3.trans e4) (.bl _) rfl (show _ ++ _ = _ by rw [← List.replicate_succ'])⟩
  · rintro D0 hD H' ds rfl hlen hS' hv
    obtain ⟨p3, xs3, e0, _, hp3, hs3⟩ := dt_lst hv
    cases e0
    rw [show ∀ n, List.replicate n (D.bl true) = (List.replicate n true).map D.bl from fun n => (List.map_replicate).symm] at hs3
    have e3 := hs3.bls_eq
    subst e3
    refine ⟨_, _, rfl, SqL.of hp3, ?_⟩
    rw [show ∀ n, (List.replicate n true).all id = true from fun n => by simp]
    exact q _
/-- all([_law_right(pot(script, k)) for k in range(n)]) -/
theorem law_all2 {u : Option V} {a : Addr} {ns : List Int} {H : Hp} {Q : VK} {n : Int} (hS : SqL K H a (ns.map V.int)) (hl : ns.length ≤ 63) (h0 : 0 ≤ n) (h1 : n ≤ 63) (q : ∀ H' : Hp, Q (V.bl true) H') :
    rLcR (gName 2) tYes (tCall spRight [] E0 (tCons (tCall (spPot K) [] E0 (tCons (tVar 0) (tCons (tVar 2) tNil))) tNil)) [2] [some (V.ref a), u, none] (fun x H1 => rAll K [x] H1 Q) [V.int n] H := by
  refine lcR (by omega) (by omega) (fun i ds => ds = List.replicate i (.bl true)) rfl ?_ ?_
  · rintro D0 hD i ds H' hi rfl hE x H2 ⟨rfl, rfl⟩ Ky Kn hy hn
    walk_at "go"
    have hS2 : SqL K H2 a (ns.map V.int) := sql_sm hS (hE.same hD)
    refine ⟨a, ns, i, rfl, hS2, hl, by omega, fun p H3 e3 hp => ?_⟩
    walk_at "go"
    exact ⟨p, rfl, hp, fun H4 e4 => hy _ _ (.bl true) (e3.trans e4) (.bl _) rfl (show _ ++ _ = _ by rw [← List.replicate_succ'])⟩
  · rintro D0 hD H' ds rfl hlen hS' hv
    obtain ⟨p3, xs3, e0, _, hp3, hs3⟩ := dt_lst hv
    cases e0
    rw [show ∀ n, List.replicate n (D.bl true) = (List.replicate n true).map D.bl from fun n => (List.map_replicate).symm] at hs3
    have e3 := hs3.bls_eq
    subst e3
    refine ⟨_, _, rfl, SqL.of hp3, ?_⟩
    rw [show ∀ n, (List.replicate n true).all id = true from fun n => by simp]
    exact q _
end
end G


namespace G
open PySem PySem.Spec PyProof.Rows L2 U
section
variable {P : Program} {w : World} {K : PySem.W.Frag} {mg : Str → Option Value} {base : Heap}
def spPair : Sp := fun vs H Q _ => ∃ (wd : Nat) (z1 z2 : Str), vs = [.int wd, .str z1, .str z2] ∧ 6 ≤ wd ∧ wd ≤ 40 ∧ okText 200 z1 = true ∧ okText 200 z2 = true ∧ ∀ H', Same H H' → Q (.bl true) H'
theorem ok__law_pair_right (T : Tx K mg) : FnOk P w K mg base L2.CX0 lv__law_pair_right T.f__law_pair_right T.d__law_pair_right p__law_pair_right spPair := by
  refine T.F__law_pair_right.ok sc__law_pair_right (fun vs H Q E h => ?_) (fun cdv A outer s H vs Q E hr h => ?_)
  · obtain ⟨wd, z1, z2, rfl, _⟩ := h
    rfl
  · obtain ⟨wd, z1, z2, rfl, h6, h40, hz1, hz2, q⟩ := h
    have hr64 := hr.units
    refine ⟨_, (pss_cons (ps_par (i := 3) (j := 4) rfl sc__law_pair_right.nd rfl rfl (by decide) rfl rfl (pa_cons (pe_tup (pa_cons (pe_make T.M_Shortener (ok_Shortener___init__ T) (hr.mono (by decide)) rfl T.m_Shortener T.b_Shortener___init__ .nil pass0 (pa_cons (pv 0) (pa_cons (pv 0) (pa_cons pe_int (pa_cons pe_str pa_nil))))) pa_nil)) (pa_cons (pe_tup (pa_cons (pe_make T.M_Shortener (ok_Shortener___init__ T) (hr.mono (by decide)) rfl T.m_Shortener T.b_Shortener___init__ .nil pass0 (pa_cons (pe_op op_sub (pv 0) pe_int) (pa_cons (pe_op op_sub (pv 0) pe_int) (pa_cons pe_int (pa_cons pe_str pa_nil))))) pa_nil)) pa_nil)) (by rfl))
        (pss_cons (ps_par (i := 5) (j := 6) rfl sc__law_pair_right.nd rfl rfl (by decide) rfl rfl (pa_cons (pe_call (ok_show T) (hr.mono (by decide)) rfl T.m_show T.F_show.kp T.b_show .nil pass0 (pa_cons (pv 3) (pa_cons (pv 1) pa_nil))) (pa_cons (pe_call (ok_show T) (hr.mono (by decide)) rfl T.m_show T.F_show.kp T.b_show .nil pass0 (pa_cons (pv 3) (pa_cons (pv 2) pa_nil))) pa_nil)) (by rfl))
        (pss_cons (ps_for PassesOwn.never rfl (pi_listK (K := K) rfl (pe_lst (pa_cons pe_str (pa_cons pe_str (pa_cons pe_str pa_nil))))) (pg_name (i := 7) sc__law_pair_right.nd rfl (by first | exact Or.inl rfl | exact Or.inr rfl)) (pss_cons (ps_set (i := 8) sc__law_pair_right.nd rfl (by first | exact Or.inl rfl | exact Or.inr rfl) (pe_make T.M_Namer (ok_Namer___init__ T) (hr.mono (by decide)) rfl T.m_Namer T.b_Namer___init__ .nil pass0 (pa_cons (pv 7) (pa_cons (pv 0) pa_nil))))
        (pss_cons (ps_if (PW.pt (pw_or (pt_cmpR (op_neK (K := K) rfl hr64) (pe_call (ok_names T) (hr.mono (by decide)) rfl T.m_names T.F_names.kp T.b_names .nil pass0 (pa_cons (pv 8) (pa_cons (pe_tup (pa_cons (pv 1) pa_nil)) pa_nil))) (pe_tup (pa_cons (pv 5) pa_nil)) (nomark _)) (pw_or1 (pt_cmpR (op_neK (K := K) rfl hr64) (pe_call (ok_names T) (hr.mono (by decide)) rfl T.m_names T.F_names.kp T.b_names .nil pass0 (pa_cons (pv 8) (pa_cons (pe_tup (pa_cons (pv 2) pa_nil)) pa_nil))) (pe_tup (pa_cons (pv 6) pa_nil)) (nomark _))))) (pss_one (ps_ret pe_bl)) pss_nil)
        (pss_cons (ps_set (i := 9) sc__law_pair_right.nd rfl (by first | exact Or.inl rfl | exact Or.inr rfl) (pe_call (ok_names T) (hr.mono (by decide)) rfl T.m_names T.F_names.kp T.b_names .nil pass0 (pa_cons (pv 8) (pa_cons (pe_tup (pa_cons (pv 1) (pa_cons (pv 2) pa_nil))) pa_nil))))
        (pss_one (ps_if (pt_cmpR (op_neK (K := K) rfl hr64) (pv 5) (pv 6) (nomark _)) (pss_one (ps_if (pt_cmpR (op_neK (K := K) rfl hr64) (pv 9) (pe_tup (pa_cons (pv 5) (pa_cons (pv 6) pa_nil))) (nomark _)) (pss_one (ps_ret pe_bl)) pss_nil)) (pss_one (ps_if (pt_cmpR (op_neK (K := K) rfl hr64) (pv 9) (pe_tup (pa_cons (pv 5) (pa_cons (pe_op op_addU (pe_ifExp (pt_cmpR (op_eqK (K := K) rfl hr64) (pv 7) pe_str (nomark _)) (pe_call (ok_show T) (hr.mono (by decide)) rfl T.m_show T.F_show.kp T.b_show .nil pass0 (pa_cons (pv 4) (pa_cons (pv 1) pa_nil))) (pv 5)) pe_str) pa_nil))) (nomark _)) (pss_cons (ps_set (i := 10) sc__law_pair_right.nd rfl (by first | exact Or.inl rfl | exact Or.inr rfl) (pe_call (ok_show T) (hr.mono (by decide)) rfl T.m_show T.F_show.kp T.b_show .nil pass0 (pa_cons (pv 4) (pa_cons (pv 1) pa_nil))))
        (pss_one (ps_if (PW.pt (pw_or (pt_cmpR (op_neK (K := K) rfl hr64) (pv 7) pe_str (nomark _)) (pw_or (pt_cmpR (op_neK (K := K) rfl hr64) (pv 9) (pe_tup (pa_cons (pv 5) (pa_cons (pe_op op_addU (pv 10) pe_str) pa_nil))) (nomark _)) (pw_or1 (pt_cmpR (op_neK (K := K) rfl hr64) (pv 5) (pe_op op_addU (pv 10) pe_str) (nomark _)))))) (pss_one (ps_ret pe_bl)) pss_nil))) pss_nil))))))))
        (pss_one (ps_ret pe_bl))))), ?_⟩
    walk_at "lw"
    have eok : okText 3 (Str.ofString "") = true := by decide +kernel
    have show1 : ∀ {H : Hp} {C x p : Addr} {n : Nat} {z : Str} {Gk : VK} {E : XK}, Dt N0 H (.ref x) (shD C ⟨n, n, 0, Str.ofString ""⟩) → H p = some (.tup [.ref x]) → n ≤ 40 → okText 200 z = true → (∀ H', Same H H' → Gk (.str (tkS n z)) H') → spShow C [.ref p, .str z] H Gk E := by
      intro H C x p n z Gk E hx hp hn hz qk
      refine ⟨_, [⟨n, n, 0, Str.ofString ""⟩], z, rfl, fun s hs => ?_, Nat.le_refl 1, by show 1 ≤ 4; decide, .tup (fun z => z) hp (.cons hx .nil), hz, fun H' S' => ?_⟩
      · rw [List.mem_singleton.mp hs]
        exact ⟨hn, hn, Nat.zero_le _, eok⟩
      · rw [cut_end]
        exact qk _ S'
    intro x dx nx nd ne
    refine ⟨x, dx, ⟨wd, wd, 0, Str.ofString ""⟩, rfl, ⟨h40, h40, Nat.zero_le _, eok⟩, upd_same, fun H1 hE1 hv1 => ⟨rfl, by decide, fun p1 n1 => ?_⟩⟩
    have S1 := made_same hE1 nx nd
    have S2 := Same.new (o := .tup [.ref x]) n1
    intro x2 dx2 nx2 nd2 ne2
    rw [show (wd : Int) - 2 = ((wd - 2 : Nat) : Int) by omega]
    refine ⟨x2, dx2, ⟨wd - 2, wd - 2, 0, Str.ofString ""⟩, rfl, ⟨by show wd - 2 ≤ 40; omega, by show wd - 2 ≤ 40; omega, Nat.zero_le _, eok⟩, upd_same, fun H2 hE2 hv2 => ⟨rfl, by decide, fun p2 n2 => ?_⟩⟩
    have S3 := made_same hE2 nx2 nd2
    have S4 := Same.new (o := .tup [.ref x2]) n2
    have hp1 := S4 _ _ (S3 _ _ (show upd H1 p1 (.tup [.ref x]) p1 = _ from upd_same))
    have hx4 := ((hv1.sm S2).sm S3).sm S4
    refine show1 hx4 hp1 h40 hz1 fun H3 S5 => ?_
    refine show1 (hx4.sm S5) (S5 _ _ hp1) h40 hz2 fun H4 S6 => ?_
    refine ⟨by decide, fun t3 n3 => ?_⟩
    have S7 := Same.new (o := .lst [.str (Str.ofString "count"), .str (Str.ofString "free"), .str (Str.ofString "tight")]) n3
    have hp2 := (S7 _ _ (S6 _ _ (S5 _ _ (show upd H2 p2 (.tup [.ref x2]) p2 = _ from upd_same))))
    have hx2 := (((hv2.sm S4).sm S5).sm S6).sm S7
    have Sall := (((((S1.trans S2).trans S3).trans S4).trans S5).trans S6).trans S7
    refine forL (S := N0) upd_same (fun z => z) (fun jj σ H' => Same (upd H4 t3 (.lst [.str (Str.ofString "count"), .str (Str.ofString "free"), .str (Str.ofString "tight")])) H' ∧ ∃ u7 u8 u9 v10, σ = [some (.int wd), some (.str z1), some (.str z2), some (.ref p1), some (.ref p2), some (.str (tkS wd z1)), some (.str (tkS wd z2)), u7, u8, u9, v10]) ⟨Same.refl _, _, _, _, _, rfl⟩ (fun i σ' H' hI => Ext.of hI.1) ?_ ?_
    · rintro jj y σ' H5 hy ⟨S8, u7, u8, u9, v10, rfl⟩
      obtain ⟨r, rfl⟩ : ∃ r : Ru, y = .str r.str := by
        have := List.mem_of_getElem? hy
        simp only [List.mem_cons, List.not_mem_nil, or_false] at this
        rcases this with rfl | rfl | rfl
        · exact ⟨.count, rfl⟩
        · exact ⟨.free, rfl⟩
        · exact ⟨.tight, rfl⟩
      walk_at "lw"
      intro x3 dx3 nx3 nd3 ne3
      refine ⟨x3, dx3, r, wd, rfl, h6, h40, upd_same, fun H6 hE6 hv6 => ⟨rfl, ?_⟩⟩
      have S9 := made_same hE6 nx3 nd3
      have one : ∀ z ∈ [z1], okText 200 z = true := fun z h => by rw [List.mem_singleton.mp h]; exact hz1
      have two : ∀ z ∈ [z2], okText 200 z = true := fun z h => by rw [List.mem_singleton.mp h]; exact hz2
      have both : ∀ z ∈ [z1, z2], okText 200 z = true := fun z h => by
        simp only [List.mem_cons, List.not_mem_nil, or_false] at h
        rcases h with rfl | rfl
        · exact hz1
        · exact hz2
      refine ⟨by decide, fun t4 n4 => ?_⟩
      have S10 := Same.new (o := .tup ([z1].map V.str)) n4
      refine nmChk (n := 1) (l := [z1]) (rs := [tkS wd z1]) (hv6.sm S10) h6 h40 (dt_tstrs upd_same) (by show 1 ≤ 6; decide) one (names_one r wd z1) (by decide) fun H7 S11 => ?_
      walk_at "lw"
      refine ⟨by decide, fun t5 n5 => ?_⟩
      have S12 := Same.new (o := .tup ([z2].map V.str)) n5
      have S13 := ((S10.trans S11).trans S12)
      refine nmChk (n := 1) (l := [z2]) (rs := [tkS wd z2]) (hv6.sm S13) h6 h40 (dt_tstrs upd_same) (by show 1 ≤ 6; decide) two (names_one r wd z2) (by decide) fun H8 S14 => ?_
      walk_at "lw"
      refine ⟨by decide, fun t6 n6 => ?_⟩
      have S15 := Same.new (o := .tup ([z1, z2].map V.str)) n6
      have S16 := (S13.trans S14).trans S15
      refine ⟨_, _, r, wd, [z1, z2], rfl, hv6.sm S16, h6, h40, dt_tstrs upd_same, by show 2 ≤ 6; decide, both, fun pn H9 S17 hpn => ?_⟩
      have nok := namesF_ok (r := r) h40 both (by show 2 ≤ 8; decide)
      rw [names_two] at hpn nok
      have S18 := S16.trans S17
      have b1 : okText 40 (tkS wd z1) = true := ok_mono (tkS_ok hz1) (by omega)
      have b2 : okText 40 (tkS wd z2) = true := ok_mono (tkS_ok hz2) (by omega)
      have fin : ∀ H', Same H9 H' → Same (upd H4 t3 (.lst [.str (Str.ofString "count"), .str (Str.ofString "free"), .str (Str.ofString "tight")])) H' := fun H' e => ((S8.trans S9).trans S18).trans e
      walk_at "lw"
      refine neS ?_
      walk_at "lw"
      have t2 : Str.ofString "~2" = til 2 := by decide +kernel
      have t3e : Str.ofString "~3" = til 3 := by decide +kernel
      have a2 : okText 40 (tkS (wd - 2) z1) = true := ok_mono (tkS_ok hz1) (by omega)
      have ok2 : ∀ {a b : Str}, okText 42 a = true → okText 42 b = true → ∀ z ∈ [a, b], okText 42 z = true := fun ha hb z h => by
        simp only [List.mem_cons, List.not_mem_nil, or_false] at h
        rcases h with rfl | rfl
        · exact ha
        · exact hb
      have b1' := ok_mono b1 (show 40 ≤ 42 by decide)
      have b2' := ok_mono b2 (show 40 ≤ 42 by decide)
      refine ite2 (fun c => ?_) (fun c => ?_)
      · rw [two_apart c] at hpn nok
        refine ⟨by decide, fun t7 n7 => ?_⟩
        refine ne_tup (m := [tkS wd z1, tkS wd z2]) (n := 42) (Same.new n7 _ _ hpn) upd_same nok (ok2 b1' b2') ?_
        rw [decide_eq_true rfl]
        walk_at "lw"
        exact ⟨fin _ (Same.new n7), _, _, _, _, rfl⟩
      · have c := Decidable.not_not.mp c
        refine eqS ?_
        walk_at "lw"
        refine ite2 (fun c2 => ?_) (fun c2 => ?_)
        · have hr : r = .tight := by
            cases r with
            | count => exact absurd c2 (by decide +kernel)
            | free => exact absurd c2 (by decide +kernel)
            | tight => rfl
          subst hr
          rw [two_tight c] at hpn nok
          have hp29 := (((S8.trans S9).trans S18)) _ _ hp2
          have hx29 := hx2.sm ((S8.trans S9).trans S18)
          refine show1 hx29 hp29 (by omega) hz1 fun Ha Sa => ?_
          rw [t2, t3e]
          refine adS (by have := (okText_iff.mp a2).1; rw [til_len 2 (by decide), sizeLine_eq]; omega) ?_
          refine ⟨by decide, fun t7 n7 => ?_⟩
          have Sb := Sa.trans (Same.new (o := .tup [.str (tkS wd z1), .str (tkS (wd - 2) z1 ++ til 2)]) n7)
          have e2 : okText 42 (tkS (wd - 2) z1 ++ til 2) = true := ok_append a2 (til_ok 2 (by decide))
          have e3 : okText 42 (tkS (wd - 2) z1 ++ til 3) = true := ok_append a2 (til_ok 3 (by decide))
          refine ne_tup (m := [tkS wd z1, tkS (wd - 2) z1 ++ til 2]) (n := 42) (Sb _ _ hpn) upd_same nok (ok2 b1' e2) ?_
          by_cases c3 : tkS wd z1 = tkS (wd - 2) z1 ++ til 2
          · rw [if_pos c3] at hpn nok ⊢
            have hne : ¬ ([tkS wd z1, tkS (wd - 2) z1 ++ til 3] = [tkS wd z1, tkS (wd - 2) z1 ++ til 2]) := by
              intro e
              simp only [List.cons.injEq, true_and, and_true] at e
              exact absurd (til_one 3 2 (by decide) (by decide) (append_inj e)) (by decide)
            rw [decide_eq_false hne]
            walk_at "lw"
            refine show1 (hx29.sm Sb) (Sb _ _ hp29) (by omega) hz1 fun Hc Sc => ?_
            refine neS ?_
            walk_at "lw"
            have ett : Ru.tight.str = Str.ofString "tight" := rfl
            rw [if_neg (fun h => h ett)]
            refine adS (by have := (okText_iff.mp a2).1; rw [til_len 3 (by decide), sizeLine_eq]; omega) ?_
            refine ⟨by decide, fun t8 n8 => ?_⟩
            have Sd := (Sb.trans Sc).trans (Same.new (o := .tup [.str (tkS wd z1), .str (tkS (wd - 2) z1 ++ til 3)]) n8)
            refine ne_tup (m := [tkS wd z1, tkS (wd - 2) z1 ++ til 3]) (n := 42) (Sd _ _ hpn) upd_same nok (ok2 b1' e3) ?_
            rw [decide_eq_true rfl]
            walk_at "lw"
            refine adS (by have := (okText_iff.mp a2).1; rw [til_len 2 (by decide), sizeLine_eq]; omega) ?_
            refine neS ?_
            rw [decide_eq_true c3]
            walk_at "lw"
            exact ⟨fin _ Sd, _, _, _, _, rfl⟩
          · rw [if_neg c3]
            rw [decide_eq_true rfl]
            walk_at "lw"
            exact ⟨fin _ Sb, _, _, _, _, rfl⟩
        · have hname : nameF r wd z2 [(z1, tkS wd z1)] = tkS wd z1 ++ til 2 := by
            cases r with
            | count => exact two_count c
            | free => exact two_free c
            | tight => exact absurd rfl c2
          rw [hname] at hpn nok
          rw [t2]
          refine adS (by have := (okText_iff.mp b1).1; rw [til_len 2 (by decide), sizeLine_eq]; omega) ?_
          refine ⟨by decide, fun t7 n7 => ?_⟩
          refine ne_tup (m := [tkS wd z1, tkS wd z1 ++ til 2]) (n := 42) (Same.new n7 _ _ hpn) upd_same nok nok ?_
          rw [decide_eq_true rfl]
          walk_at "lw"
          exact ⟨fin _ (Same.new n7), _, _, _, _, rfl⟩
    · rintro σ' H5 ⟨S8, u7, u8, u9, v10, rfl⟩
      walk_at "lw"
      exact q _ (Sall.trans S8)
theorem ok__law_right (T : Tx K mg) : FnOk P w K mg base L2.CX0 lv__law_right T.f__law_right T.d__law_right p__law_right spRight := by
  refine T.F__law_right.ok sc__law_right (fun vs H Q E h => ?_) (fun cdv A outer s H vs Q E hr h => ?_)
  · obtain ⟨p, rfl, _⟩ := h
    rfl
  · obtain ⟨p, rfl, hp, q⟩ := h
    have hr64 := hr.units
    refine ⟨_, (pss_cons (ps_asg (pe_tup (pa_cons (pe_lst (pa_cons (pe_call (ok__law_stem T) (hr.mono (by decide)) rfl T.m__law_stem T.F__law_stem.kp T.b__law_stem .nil pass0 (pa_cons (pv 0) (pa_cons pe_int pa_nil))) (pa_cons (pe_call (ok__law_stem T) (hr.mono (by decide)) rfl T.m__law_stem T.F__law_stem.kp T.b__law_stem .nil pass0 (pa_cons (pv 0) (pa_cons pe_int pa_nil))) pa_nil))) (pa_cons (pe_op op_addU pe_int (pe_call (ok__law_draw T) (hr.mono (by decide)) rfl T.m__law_draw T.F__law_draw.kp T.b__law_draw .nil pass0 (pa_cons (pv 0) (pa_cons (pe_call (ok__law_one T) (hr.mono (by decide)) rfl T.m__law_one T.F__law_one.kp T.b__law_one .nil pass0 (pa_cons (pv 0) (pa_cons (pe_lst (pa_cons pe_int (pa_cons pe_int (pa_cons pe_int pa_nil)))) pa_nil))) pa_nil)))) pa_nil))) (pg_tupK (K := K) (n := 2) rfl rfl (pgs_cons (pg_name (i := 1) sc__law_right.nd rfl (by first | exact Or.inl rfl | exact Or.inr rfl)) (pgs_cons (pg_name (i := 2) sc__law_right.nd rfl (by first | exact Or.inl rfl | exact Or.inr rfl)) pgs_nil))))
        (pss_cons (ps_set (i := 3) sc__law_right.nd rfl (by first | exact Or.inl rfl | exact Or.inr rfl) (pe_lc (own := [("_law_k", 4)]) rfl sc__law_right.nd (pi_range1 rfl T.n_range (pa_cons pe_int pa_nil)) (blkOk_by (N := ["_law_source_here", "_law_stems", "_law_size", "_law_line", "_law_k"]) (sc := L2.defScope s__law_right) (by decide +kernel)) (fun _ _ _ _ _ => (pg_name (i := 4) sc__law_right.nd rfl (by first | exact Or.inl rfl | exact Or.inr rfl))) (fun _ _ _ _ _ => pts_nil) (fun _ _ _ _ _ => (pe_call (ok__law_word T) (hr.mono (by decide)) rfl T.m__law_word T.F__law_word.kp T.b__law_word .nil pass0 (pa_cons (pv 0) (pa_cons (pv 1) pa_nil))))))
        (pss_one (ps_ret (pe_callB (cr_allK (K := K) rfl rfl) (by rfl) T.n_all (by decide +kernel) (pa_cons (pe_lc (own := [("_law_k", 4)]) rfl sc__law_right.nd (pi_range1 rfl T.n_range (pa_cons pe_int pa_nil)) (blkOk_by (N := ["_law_source_here", "_law_stems", "_law_size", "_law_line", "_law_k"]) (sc := L2.defScope s__law_right) (by decide +kernel)) (fun _ _ _ _ _ => (pg_name (i := 4) sc__law_right.nd rfl (by first | exact Or.inl rfl | exact Or.inr rfl))) (fun _ _ _ _ _ => pts_nil) (fun _ _ _ _ _ => (pe_call (ok__law_pair_right T) (hr.mono (by decide)) rfl T.m__law_pair_right T.F__law_pair_right.kp T.b__law_pair_right .nil pass0 (pa_cons (pv 2) (pa_cons (pe_ix (ix_K (K := K) rfl) (pv 3) (pv 4) (fun _ _ => rfl)) (pa_cons (pe_ix (ix_K (K := K) rfl) (pv 3) (pe_op op_mod (pe_callTy call_intU (by rfl) T.n_int (by decide +kernel) (pa_cons (pe_op op_addU (pv 4) pe_int) pa_nil)) pe_int) (fun _ _ => rfl)) pa_nil)))))) pa_nil)))))), ?_⟩
    walk_at "lw"
    refine ⟨p, 12, rfl, hp, by decide, by decide, fun z1 H1 S1 ho1 => ?_⟩
    refine ⟨p, 9, rfl, hp.sm S1, by decide, by decide, fun z2 H2 S2 ho2 => ?_⟩
    refine ⟨by decide, fun tS nS => ⟨by decide, fun t2 n2 => ?_⟩⟩
    have S3 := (S1.trans S2).trans (Same.new (o := .lst [.str z1, .str z2]) nS)
    have S4 := Same.snew S3 (o := .lst [.int 1, .int 6, .int 35]) n2
    have hst : (upd (upd H2 tS (.lst [.str z1, .str z2])) t2 (.lst [.int 1, .int 6, .int 35])) tS = some (.lst ([z1, z2].map V.str)) := Same.new n2 _ _ upd_same
    refine ⟨p, _, rfl, hp.sm S4, .inl ⟨t2, _, rfl, .inl upd_same, by decide, by decide, fun x H5 S5 hx => ?_⟩⟩
    obtain ⟨k, rfl, hk0, hk⟩ : ∃ k : Nat, x = .int k ∧ 0 < k ∧ k ≤ 35 := by
      simp only [List.mem_cons, List.not_mem_nil, or_false] at hx
      rcases hx with rfl | rfl | rfl
      · exact ⟨1, rfl, by decide, by decide⟩
      · exact ⟨6, rfl, by decide, by decide⟩
      · exact ⟨35, rfl, by decide, by decide⟩
    have S6 := S4.trans S5
    refine ⟨p, k, rfl, hp.sm S6, ⟨by omega, by omega⟩, fun j H6 S7 hj0 hj1 => adI ?_⟩
    obtain ⟨j, rfl⟩ := Int.eq_ofNat_of_zero_le hj0
    rw [show (6 : Int) + (j : Int) = ((6 + j : Nat) : Int) by omega]
    generalize hwd : 6 + j = wd
    have h6 : 6 ≤ wd := by omega
    have h40 : wd ≤ 40 := by omega
    refine ⟨by decide, fun t7 n7 => ⟨_, SqT.of upd_same, rfl, ?_⟩⟩
    have Sn := Same.new (o := .tup [.ref tS, .int wd]) n7
    have S8 := (S6.trans S7).trans Sn
    have hst7 := Sn _ _ (S7 _ _ (S5 _ _ hst))
    walk_at "lw"
    refine lcR (by decide) (by decide) (fun i ds => ∃ l : List Str, ds = l.map D.str ∧ l.length = i ∧ ∀ z ∈ l, okText 200 z = true) ⟨[], rfl, rfl, fun _ h => by cases h⟩ ?_ ?_
    · rintro D0 hD i ds H8 hi ⟨l, rfl, hl, hok⟩ hE x H9 ⟨rfl, rfl⟩ Ky Kn hy hn
      have S11 := hE.same hD
      walk_at "lw"
      refine ⟨p, _, [z1, z2], rfl, hp.sm (S8.trans S11), dt_lstrs (S11 _ _ hst7), fun z hz => ?_, by show 0 < 2; decide, by show 2 < 100; decide, fun z Ha Sa hz => ?_⟩
      · simp only [List.mem_cons, List.not_mem_nil, or_false] at hz
        rcases hz with rfl | rfl
        · exact ho1
        · exact ok_mono ho2 (by decide)
      · refine hy _ _ (.str z) Sa (.str _) rfl ⟨l ++ [z], by rw [List.map_append]; rfl, by rw [List.length_append, hl]; rfl, fun t ht => ?_⟩
        rcases List.mem_append.mp ht with y | y
        · exact hok t y
        · rw [List.mem_singleton.mp y]
          exact hz
    · rintro D0 hD H8 ds ⟨l, rfl, hl, hok⟩ hlen S11 hv3
      obtain ⟨p3, xs3, e0, _, hp3, hs3⟩ := dt_lst hv3
      cases e0
      have e3 := hs3.strs_eq
      subst e3
      have hl6 : l.length = 6 := hl
      walk_at "lw"
      refine lcR (by decide) (by decide) (fun i ds => ds = List.replicate i (.bl true)) rfl ?_ ?_
      · rintro D1 hD1 i ds H9 hi rfl hE x Ha ⟨rfl, rfl⟩ Ky Kn hy hn
        have hi : i < 6 := hi
        have S12 := hE.same hD1
        walk_at "lw"
        have at1 : ∀ n : Nat, n < 6 → (l.map V.str)[n]? = some (.str (l.getD n Str.empty)) := fun n hn => by
          rw [List.getElem?_map, List.getD_eq_getElem?_getD, List.getElem?_eq_getElem (by omega)]
          rfl
        have okn : ∀ n : Nat, n < 6 → okText 200 (l.getD n Str.empty) = true := fun n hn => by
          rw [List.getD_eq_getElem?_getD, List.getElem?_eq_getElem (by omega)]
          exact hok _ (List.getElem_mem (by omega))
        refine ixL (S12 _ _ hp3) (v := .str (l.getD i Str.empty)) (by rw [Int.toNat_natCast]; exact at1 i hi) (adI ?_) (by omega)
        refine ⟨by decide, ?_⟩
        have e6 : ((i : Int) + 1) % 6 = (((i + 1) % 6 : Nat) : Int) := by omega
        have h6' : (i + 1) % 6 < 6 := Nat.mod_lt _ (by decide)
        rw [e6]
        refine ixL (S12 _ _ hp3) (v := .str (l.getD ((i + 1) % 6) Str.empty)) (by rw [Int.toNat_natCast]; exact at1 _ h6') ?_ (by omega)
        refine ⟨wd, _, _, rfl, h6, h40, okn i hi, okn _ h6', fun Hb Sb => ?_⟩
        exact hy _ _ (.bl true) Sb (.bl _) rfl (show _ ++ _ = _ by rw [← List.replicate_succ'])
      · rintro D1 hD1 H9 ds rfl hlen2 S13 hv4
        obtain ⟨p4, xs4, e0, _, hp4, hs4⟩ := dt_lst hv4
        cases e0
        rw [show ∀ n, List.replicate n (D.bl true) = (List.replicate n true).map D.bl from fun n => (List.map_replicate).symm] at hs4
        have e4 := hs4.bls_eq
        subst e4
        refine ⟨_, _, rfl, SqL.of hp4, ?_⟩
        rw [show ∀ n, (List.replicate n true).all id = true from fun n => by simp]
        exact q _ ((S8.trans S11).trans S13)
theorem ok_law (T : Tx K mg) : FnG P w K mg base lv_law T.f_law T.d_law p_law (spLaw K) := by
  refine fnG_of T.F_law sc_law (fun vs H Q E h => ?_) (fun cdv A outer s H vs Q E hr hgd h => ?_)
  · obtain ⟨a, ns, rfl, _⟩ := h
    rfl
  · obtain ⟨a, ns, rfl, hS, hl, q⟩ := h
    have hr64 := hr.units
    refine ⟨_, (pss_cons (ps_if (pt_cmpR (op_neK (K := K) rfl hr64) (pe_call (ok_names T) (hr.mono (by decide)) rfl T.m_names T.F_names.kp T.b_names .nil pass0 (pa_cons (pe_make T.M_Namer (ok_Namer___init__ T) (hr.mono (by decide)) rfl T.m_Namer T.b_Namer___init__ .nil pass0 (pa_cons pe_str (pa_cons pe_int pa_nil))) (pa_cons (pe_tup (pa_cons pe_str (pa_cons pe_str pa_nil))) pa_nil))) (pe_tup (pa_cons pe_str (pa_cons pe_str pa_nil))) (nomark _)) (pss_one (ps_ret pe_bl)) pss_nil)
        (pss_one (ps_ret (pe_callB (cr_allK (K := K) rfl rfl) (by rfl) T.n_all (by decide +kernel) (pa_cons (pe_lc (own := [("_law_k", 1)]) rfl sc_law.nd (pi_range1 rfl T.n_range (pa_cons (pe_callB (call_maxU rfl) (by rfl) T.n_max (by decide +kernel) (pa_cons pe_int (pa_cons (pe_callB (call_minU rfl) (by rfl) T.n_min (by decide +kernel) (pa_cons (pe_callB (call_lenK (K := K) rfl) (by rfl) T.n_len (by decide +kernel) (pa_cons (pv 0) pa_nil)) (pa_cons pe_int pa_nil))) pa_nil))) pa_nil)) (blkOk_by (N := ["_law_script", "_law_k"]) (sc := L2.defScope s_law) (by decide +kernel)) (fun _ _ _ _ _ => (pg_name (i := 1) sc_law.nd rfl (by first | exact Or.inl rfl | exact Or.inr rfl))) (fun _ _ _ _ _ => pts_nil) (fun _ _ _ _ _ => (pe_call (ok__law_right T) (hr.mono (by decide)) rfl T.m__law_right T.F__law_right.kp T.b__law_right .nil pass0 (pa_cons (pe_call (ok__law_source T) (hr.mono (by decide)) rfl T.m__law_source T.F__law_source.kp T.b__law_source .nil pass0 (pa_cons (pv 0) (pa_cons (pv 1) pa_nil))) pa_nil)))) pa_nil))))), ?_⟩
    walk_at "lw"
    intro x dx nx nd ne
    refine ⟨x, dx, .tight, 6, rfl, by decide, by decide, upd_same, fun H1 hE1 hv1 => ⟨rfl, ?_⟩⟩
    have S1 := made_same hE1 nx nd
    refine ⟨by decide, fun t nt => ?_⟩
    have S2 := Same.new (o := .tup (([Str.ofString "abcd~2", Str.ofString "abcd~2x"] : List Str).map V.str)) nt
    refine nmChk (n := 2) (l := [Str.ofString "abcd~2", Str.ofString "abcd~2x"]) (rs := [Str.ofString "abcd~2", Str.ofString "abcd~3"]) (hv1.sm S2) (by decide) (by decide) (dt_tstrs upd_same) (by decide) (by decide +kernel) (by decide +kernel) (by decide) fun H2 S3 => ?_
    walk_at "lw"
    have S4 := (S1.trans S2).trans S3
    refine ⟨_, .inl (sql_sm hS S4), ?_⟩
    rw [List.length_map]
    refine law_all (sql_sm hS S4) hl ?_ ?_ q
    · split <;> split <;> omega
    · split <;> split <;> omega
end
end G

namespace G
open PySem PySem.Spec PyProof.Rows L2 U
theorem law_end {P : Program} {w : World} {K : PySem.W.Frag} {h : Heap} {mg : Str → Option Value} {fa fl : Addr} (X : K.In h) (G0 : h.Ns mainGlobals mg) (hmg : mg "law" = some (.ref fa)) (e : ∃ T : Tx K mg, T.f_law = fl) :
    ∃ fd : FuncData, (∀ (t : Shared) (u : Value), BindsTo t fd ⟨[u], []⟩ [("_law_script", u)]) ∧ ∀ base : Heap, K.In base → base.Ns mainGlobals mg → FnG P w K mg base lv_law fa fd ["_law_script"] (spLaw K) := by
  obtain ⟨T, _⟩ := e
  have q := hmg.symm.trans T.m_law
  cases q
  refine ⟨T.d_law, ?_, fun base _ _ => ok_law T⟩
  obtain ⟨oc, od, kV, doc, pm, an, cdv, ct, osl, efd, lk, hcd⟩ := T.F_law.ex
  intro t u
  rw [efd]
  exact .of_eq rfl
end G

open PySem PySem.W PyProof.Rows
set_option maxRecDepth 100000 in
set_option maxHeartbeats 0 in
theorem PySem.Challenge.cw_shownshort_k59_whole_bases_by_shorteners_holds : PySem.Challenge.rw_shownshort_k59_whole_bases_by_shorteners.Holds := by
  w_on; o_law; k_head; (case hw => w_witness2)
  k_fill
  refine U.walkG (l := PySem.Challenge.rw_shownshort_k59_whole_bases_by_shorteners) (k := G.lv_law) (x := "_law_script") rfl rfl ⟨rfl, by decide, by decide⟩ (fun w h Y => PySem.W.kIn_of Y) ?F
  case F =>
    intro w mg fa h KX G0 hmg
    refine' G.law_end KX G0 hmg (G.all_mk KX G0 ?x_n_abs ?x_n_all ?x_n_bool ?x_n_divmod ?x_n_enumerate ?x_n_int ?x_n_isinstance ?x_n_len ?x_n_list ?x_n_max ?x_n_min ?x_n_range ?x_n_str ?x_n_tuple ?x_k_MOST_SIGNS ?x_k_MOST_MARK ?x_k_MOST_ROW ?x_k_MOST_TEXT ?x_k_MOST_LISTED ?x_k_SIGNS ?x_m_RULES ?x_q_RULES ?x_k_LEAST_WIDTH ?x_k_FIRST_NUMBER ?x_C_Namer ?x_pg_Namer ?x_hd_Namer ?x_po_Namer ?x_sa_Namer ?x_mk_Namer ?x_kc_Namer ?x_ha_Namer ?x_hn_Namer ?x_ht_Namer ?x_hm_Namer ?x_me_Namer ?x_na_Namer_rule ?x_na_Namer_width ?x_a_Namer___init__ ?x_i_Namer___init__ ?x_l_Namer___init__ ?x_c_Namer___init__ ?x_k_Namer___init__ ?x_a_Namer_base_of ?x_i_Namer_base_of ?x_l_Namer_base_of ?x_c_Namer_base_of ?x_k_Namer_base_of ?x_a_Namer_numbered ?x_i_Namer_numbered ?x_l_Namer_numbered ?x_c_Namer_numbered ?x_k_Namer_numbered ?x_a_Namer_name_for ?x_i_Namer_name_for ?x_l_Namer_name_for ?x_c_Namer_name_for ?x_k_Namer_name_for ?x_a_Namer___eq__ ?x_i_Namer___eq__ ?x_l_Namer___eq__ ?x_c_Namer___eq__ ?x_k_Namer___eq__ ?x_a_Namer___repr__ ?x_i_Namer___repr__ ?x_l_Namer___repr__ ?x_c_Namer___repr__ ?x_k_Namer___repr__ ?x_C_Shortener ?x_pg_Shortener ?x_hd_Shortener ?x_po_Shortener ?x_sa_Shortener ?x_mk_Shortener ?x_kc_Shortener ?x_ha_Shortener ?x_hn_Shortener ?x_ht_Shortener ?x_hm_Shortener ?x_me_Shortener ?x_na_Shortener_limit ?x_na_Shortener_head ?x_na_Shortener_tail ?x_na_Shortener_mark ?x_na_Shortener_told ?x_a_Shortener___init__ ?x_i_Shortener___init__ ?x_l_Shortener___init__ ?x_c_Shortener___init__ ?x_k_Shortener___init__ ?x_a_Shortener_cut ?x_i_Shortener_cut ?x_l_Shortener_cut ?x_c_Shortener_cut ?x_k_Shortener_cut ?x_a_Shortener___eq__ ?x_i_Shortener___eq__ ?x_l_Shortener___eq__ ?x_c_Shortener___eq__ ?x_k_Shortener___eq__ ?x_a_Shortener___repr__ ?x_i_Shortener___repr__ ?x_l_Shortener___repr__ ?x_c_Shortener___repr__ ?x_k_Shortener___repr__ ?x_a_is_integer ?x_l_is_integer ?x_c_is_integer ?x_k_is_integer ?x_a_is_text ?x_l_is_text ?x_c_is_text ?x_k_is_text ?x_a_check_text ?x_l_check_text ?x_c_check_text ?x_k_check_text ?x_a_check_namer ?x_l_check_namer ?x_c_check_namer ?x_k_check_namer ?x_a_check_texts ?x_l_check_texts ?x_c_check_texts ?x_k_check_texts ?x_a_names_of ?x_l_names_of ?x_c_names_of ?x_k_names_of ?x_a_names ?x_l_names ?x_c_names ?x_k_names ?x_a_check_number ?x_l_check_number ?x_c_check_number ?x_k_check_number ?x_a_check_row ?x_l_check_row ?x_c_check_row ?x_k_check_row ?x_a_cut_by ?x_l_cut_by ?x_c_cut_by ?x_k_cut_by ?x_a_show ?x_l_show ?x_c_show ?x_k_show ?x_a__law_source ?x_l__law_source ?x_c__law_source ?x_k__law_source ?x_a__law_draw ?x_l__law_draw ?x_c__law_draw ?x_k__law_draw ?x_a__law_one ?x_l__law_one ?x_c__law_one ?x_k__law_one ?x_a__law_stem ?x_l__law_stem ?x_c__law_stem ?x_k__law_stem ?x_a__law_word ?x_l__law_word ?x_c__law_word ?x_k__law_word ?x_a__law_pair_right ?x_l__law_pair_right ?x_c__law_pair_right ?x_k__law_pair_right ?x_a__law_right ?x_l__law_right ?x_c__law_right ?x_k__law_right ?x_a_law ?x_l_law ?x_c_law ?x_k_law)
    (case x_n_abs => k_is)
    (case x_n_all => k_is)
    (case x_n_bool => k_is)
    (case x_n_divmod => k_is)
    (case x_n_enumerate => k_is)
    (case x_n_int => k_is)
    (case x_n_isinstance => k_is)
    (case x_n_len => k_is)
    (case x_n_list => k_is)
    (case x_n_max => k_is)
    (case x_n_min => k_is)
    (case x_n_range => k_is)
    (case x_n_str => k_is)
    (case x_n_tuple => k_is)
    (case x_k_MOST_SIGNS => k_is)
    (case x_k_MOST_MARK => k_is)
    (case x_k_MOST_ROW => k_is)
    (case x_k_MOST_TEXT => k_is)
    (case x_k_MOST_LISTED => k_is)
    (case x_k_SIGNS => k_is)
    (case x_m_RULES => k_is)
    (case x_q_RULES => k_is)
    (case x_k_LEAST_WIDTH => k_is)
    (case x_k_FIRST_NUMBER => k_is)
    (case x_C_Namer => k_is)
    (case x_pg_Namer => k_is)
    (case x_hd_Namer => k_is)
    (case x_po_Namer => k_is)
    (case x_sa_Namer => k_is)
    (case x_mk_Namer => k_is)
    (case x_kc_Namer => k_is)
    (case x_ha_Namer => k_is)
    (case x_hn_Namer => k_is)
    (case x_ht_Namer => k_is)
    (case x_hm_Namer => k_is)
    (case x_me_Namer => first | rfl | k_is)
    (case x_na_Namer_rule => k_is)
    (case x_na_Namer_width => k_is)
    (case x_a_Namer___init__ => k_is)
    (case x_i_Namer___init__ => k_is)
    (case x_l_Namer___init__ => k_is)
    (case x_c_Namer___init__ => k_is)
    (case x_k_Namer___init__ => k_is)
    (case x_a_Namer_base_of => k_is)
    (case x_i_Namer_base_of => k_is)
    (case x_l_Namer_base_of => k_is)
    (case x_c_Namer_base_of => k_is)
    (case x_k_Namer_base_of => k_is)
    (case x_a_Namer_numbered => k_is)
    (case x_i_Namer_numbered => k_is)
    (case x_l_Namer_numbered => k_is)
    (case x_c_Namer_numbered => k_is)
    (case x_k_Namer_numbered => k_is)
    (case x_a_Namer_name_for => k_is)
    (case x_i_Namer_name_for => k_is)
    (case x_l_Namer_name_for => k_is)
    (case x_c_Namer_name_for => k_is)
    (case x_k_Namer_name_for => k_is)
    (case x_a_Namer___eq__ => k_is)
    (case x_i_Namer___eq__ => k_is)
    (case x_l_Namer___eq__ => k_is)
    (case x_c_Namer___eq__ => k_is)
    (case x_k_Namer___eq__ => k_is)
    (case x_a_Namer___repr__ => k_is)
    (case x_i_Namer___repr__ => k_is)
    (case x_l_Namer___repr__ => k_is)
    (case x_c_Namer___repr__ => k_is)
    (case x_k_Namer___repr__ => k_is)
    (case x_C_Shortener => k_is)
    (case x_pg_Shortener => k_is)
    (case x_hd_Shortener => k_is)
    (case x_po_Shortener => k_is)
    (case x_sa_Shortener => k_is)
    (case x_mk_Shortener => k_is)
    (case x_kc_Shortener => k_is)
    (case x_ha_Shortener => k_is)
    (case x_hn_Shortener => k_is)
    (case x_ht_Shortener => k_is)
    (case x_hm_Shortener => k_is)
    (case x_me_Shortener => first | rfl | k_is)
    (case x_na_Shortener_limit => k_is)
    (case x_na_Shortener_head => k_is)
    (case x_na_Shortener_tail => k_is)
    (case x_na_Shortener_mark => k_is)
    (case x_na_Shortener_told => k_is)
    (case x_a_Shortener___init__ => k_is)
    (case x_i_Shortener___init__ => k_is)
    (case x_l_Shortener___init__ => k_is)
    (case x_c_Shortener___init__ => k_is)
    (case x_k_Shortener___init__ => k_is)
    (case x_a_Shortener_cut => k_is)
    (case x_i_Shortener_cut => k_is)
    (case x_l_Shortener_cut => k_is)
    (case x_c_Shortener_cut => k_is)
    (case x_k_Shortener_cut => k_is)
    (case x_a_Shortener___eq__ => k_is)
    (case x_i_Shortener___eq__ => k_is)
    (case x_l_Shortener___eq__ => k_is)
    (case x_c_Shortener___eq__ => k_is)
    (case x_k_Shortener___eq__ => k_is)
    (case x_a_Shortener___repr__ => k_is)
    (case x_i_Shortener___repr__ => k_is)
    (case x_l_Shortener___repr__ => k_is)
    (case x_c_Shortener___repr__ => k_is)
    (case x_k_Shortener___repr__ => k_is)
    (case x_a_is_integer => k_is)
    (case x_l_is_integer => k_is)
    (case x_c_is_integer => k_is)
    (case x_k_is_integer => k_is)
    (case x_a_is_text => k_is)
    (case x_l_is_text => k_is)
    (case x_c_is_text => k_is)
    (case x_k_is_text => k_is)
    (case x_a_check_text => k_is)
    (case x_l_check_text => k_is)
    (case x_c_check_text => k_is)
    (case x_k_check_text => k_is)
    (case x_a_check_namer => k_is)
    (case x_l_check_namer => k_is)
    (case x_c_check_namer => k_is)
    (case x_k_check_namer => k_is)
    (case x_a_check_texts => k_is)
    (case x_l_check_texts => k_is)
    (case x_c_check_texts => k_is)
    (case x_k_check_texts => k_is)
    (case x_a_names_of => k_is)
    (case x_l_names_of => k_is)
    (case x_c_names_of => k_is)
    (case x_k_names_of => k_is)
    (case x_a_names => k_is)
    (case x_l_names => k_is)
    (case x_c_names => k_is)
    (case x_k_names => k_is)
    (case x_a_check_number => k_is)
    (case x_l_check_number => k_is)
    (case x_c_check_number => k_is)
    (case x_k_check_number => k_is)
    (case x_a_check_row => k_is)
    (case x_l_check_row => k_is)
    (case x_c_check_row => k_is)
    (case x_k_check_row => k_is)
    (case x_a_cut_by => k_is)
    (case x_l_cut_by => k_is)
    (case x_c_cut_by => k_is)
    (case x_k_cut_by => k_is)
    (case x_a_show => k_is)
    (case x_l_show => k_is)
    (case x_c_show => k_is)
    (case x_k_show => k_is)
    (case x_a__law_source => k_is)
    (case x_l__law_source => k_is)
    (case x_c__law_source => k_is)
    (case x_k__law_source => k_is)
    (case x_a__law_draw => k_is)
    (case x_l__law_draw => k_is)
    (case x_c__law_draw => k_is)
    (case x_k__law_draw => k_is)
    (case x_a__law_one => k_is)
    (case x_l__law_one => k_is)
    (case x_c__law_one => k_is)
    (case x_k__law_one => k_is)
    (case x_a__law_stem => k_is)
    (case x_l__law_stem => k_is)
    (case x_c__law_stem => k_is)
    (case x_k__law_stem => k_is)
    (case x_a__law_word => k_is)
    (case x_l__law_word => k_is)
    (case x_c__law_word => k_is)
    (case x_k__law_word => k_is)
    (case x_a__law_pair_right => k_is)
    (case x_l__law_pair_right => k_is)
    (case x_c__law_pair_right => k_is)
    (case x_k__law_pair_right => k_is)
    (case x_a__law_right => k_is)
    (case x_l__law_right => k_is)
    (case x_c__law_right => k_is)
    (case x_k__law_right => k_is)
    (case x_a_law => k_is)
    (case x_l_law => k_is)
    (case x_c_law => k_is)
    (case x_k_law => k_is)
