import PyProof.Rows.All
import Wide.All
import OpenK.AllK
import Wide.FinOn
import PyProof.ReprRoads
import HandS.ForMost
import HandS.ForExc
import HandS.IsInst
import HandS.Codes
import HandS.Star
import HandS.Conv
import HandS.Wide
import HandS.WideBits
import HandS.FStr
import HandS.MakeKwOnly
import HandS.Defaults
import HandS.Flow
import HandS.Style
import KE.GoesEnum
import PyProof.ReprLen
import HandS.TupMul
import HandS.Lambda
import HandS.Steps
import HandS.TupAny
import HandS.Zip
import KE.DataCmp
import KE.SortData
import HandS.Dict
import HandS.SetKeys
import KE.GoesMore
import HandS.CallLocal
import PyProof.P3In
import HandS.OwnEq
import PyProof.Rows.SetFrom
import PyProof.WalksMore
import HandS.More
import PyProof.EqKinds
import PyProof.DictRoadsH
import PyProof.MinMaxWalk
import PyProof.StrOps
import PyProof.TupleOfSeq
import HandS.SetFor
import HandS.Strs
import HandS.WordsExc
import HandS.ExcInit
import HandS.ExcField
import HandS.ExcIs
import HandS.TryMany
import HandS.EndTab
import KE.KExcIs
import KE.KNestM
import KE.KTryMore
import HandS.HotCalls
import PyProof.Rows.Range3
import PyProof.Conv_bool
import HandS.TryOnly
import PyProof.StrLawsIn
import HandS.ExcValue
import PySem.Challenge.RW_shownshort_k07_errors_and_limits
set_option Elab.async false
set_option linter.all false
set_option maxRecDepth 100000
set_option maxHeartbeats 4000000
set_option synthInstance.maxHeartbeats 2000000
set_option synthInstance.maxSize 100000
namespace U
open PySem PySem.Spec PyProof.Rows L2
inductive D where
  | non | bl (b : Bool) | int (i : Int) | str (x : Str) | lst (xs : List D) | tup (xs : List D) | ins (C : Addr) (ns : List Str) (xs : List D)
  | ptr (a : Addr) | ty (n : String) | opq (a : Addr) (o : HO) | ftp (xs : List D)
mutual
/-- v is the datum d in H; no object of it stands in S -/
inductive Dt (S : Addr → Prop) (H : Hp) : V → D → Prop
  | non : Dt S H .non .non
  | bl (b : Bool) : Dt S H (.bl b) (.bl b)
  | int (i : Int) : Dt S H (.int i) (.int i)
  | str (x : Str) : Dt S H (.str x) (.str x)
  | lst {a : Addr} {xs : List V} {ds : List D} : ¬ S a → H a = some (.lst xs) → DtA S H xs ds → Dt S H (.ref a) (.lst ds)
  | tup {a : Addr} {xs : List V} {ds : List D} : ¬ S a → H a = some (.tup xs) → DtA S H xs ds → Dt S H (.ref a) (.tup ds)
  | ins {a C dx : Addr} {fs : List (Str × V)} {ns : List Str} {ds : List D} : ¬ S a → H a = some (.ins C dx fs) → fs.map (·.1) = ns → DtA S H (fs.map (·.2)) ds → Dt S H (.ref a) (.ins C ns ds)
  | ptr (a : Addr) : Dt S H (.ref a) (.ptr a)
  | ty (n : String) : Dt S H (.ty n) (.ty n)
  | opq {a : Addr} {o : HO} : ¬ S a → H a = some o → Dt S H (.ref a) (.opq a o)
  /-- a tuple that is known to have no dict -/
  | ftp {a : Addr} {o : Obj} {xs : List V} {ds : List D} : ¬ S a → H a = some (.frz o (.tup xs)) → o.dict = none → DtA S H xs ds → Dt S H (.ref a) (.ftp ds)
inductive DtA (S : Addr → Prop) (H : Hp) : List V → List D → Prop
  | nil : DtA S H [] []
  | cons {v : V} {vs : List V} {d : D} {ds : List D} : Dt S H v d → DtA S H vs ds → DtA S H (v :: vs) (d :: ds)
end
/-- nothing -/
abbrev N0 : Addr → Prop := fun _ => False
/-- H' holds all that H holds, but what stands in S -/
def Ext (S : Addr → Prop) (H H' : Hp) : Prop := ∀ b o, ¬ S b → H b = some o → H' b = some o
section
variable {S S' : Addr → Prop} {H H1 H2 H' : Hp}
theorem Ext.refl (H : Hp) : Ext S H H := fun _ _ _ h => h
theorem Ext.trans (a : Ext S H H1) (b : Ext S H1 H2) : Ext S H H2 := fun c o n h => b c o n (a c o n h)
theorem Ext.of (e : Same H H') : Ext S H H' := fun b o _ h => e b o h
theorem Same.new {p : Addr} {o : HO} (h : H p = none) : Same H (upd H p o) := fun b u e => by
  rw [upd_ne (ne_of_none e h)]
  exact e
theorem Same.snew {p : Addr} {o : HO} (e : Same H H1) (h : H1 p = none) : Same H (upd H1 p o) := e.trans (Same.new h)
theorem Ext.new {p : Addr} {o : HO} (e : Ext S H H1) (h : H1 p = none) : Ext S H (upd H1 p o) := e.trans (Ext.of (Same.new h))
theorem Ext.mut {p : Addr} {o : HO} (e : Ext S H H1) (h : S p) : Ext S H (upd H1 p o) := fun b u n hb => by
  rw [upd_ne (fun z => n (by rw [z]; exact h))]
  exact e b u n hb
theorem Ext.less (e : Ext S H H1) (h : ∀ a, S a → S' a) : Ext S' H H1 := fun b o n hb => e b o (fun z => n (h b z)) hb
/-- all but one that was not there -/
theorem Ext.same {l : Addr} (e : Ext (fun a => a = l) H H1) (hl : H l = none) : Same H H1 := fun b o h => e b o (fun z => by rw [z, hl] at h; cases h) h
mutual
theorem Dt.mono (e : Ext S H H') : ∀ (d : D) {v : V}, Dt S H v d → Dt S H' v d
  | .non, _, h => by cases h; exact .non
  | .bl b, _, h => by cases h; exact .bl b
  | .int i, _, h => by cases h; exact .int i
  | .str x, _, h => by cases h; exact .str x
  | .lst ds, _, h => by
    cases h with
    | lst n ha hs => exact .lst n (e _ _ n ha) (DtA.mono e ds hs)
  | .tup ds, _, h => by
    cases h with
    | tup n ha hs => exact .tup n (e _ _ n ha) (DtA.mono e ds hs)
  | .ins C ns ds, _, h => by
    cases h with
    | ins n ha hn hs => exact .ins n (e _ _ n ha) hn (DtA.mono e ds hs)
  | .ptr a, _, h => by cases h; exact .ptr a
  | .ty n, _, h => by cases h; exact .ty n
  | .opq a o, _, h => by
    cases h with
    | opq n ha => exact .opq n (e _ _ n ha)
  | .ftp ds, _, h => by
    cases h with
    | ftp n ha hd hs => exact .ftp n (e _ _ n ha) hd (DtA.mono e ds hs)
theorem DtA.mono (e : Ext S H H') : ∀ (ds : List D) {vs : List V}, DtA S H vs ds → DtA S H' vs ds
  | [], _, h => by cases h; exact .nil
  | d :: ds, _, h => by
    cases h with
    | cons h1 h2 => exact .cons (Dt.mono e d h1) (DtA.mono e ds h2)
end
mutual
/-- another set of what may change -/
theorem Dt.set (f : ∀ a, ¬ S a → H a ≠ none → ¬ S' a) : ∀ (d : D) {v : V}, Dt S H v d → Dt S' H v d
  | .non, _, h => by cases h; exact .non
  | .bl b, _, h => by cases h; exact .bl b
  | .int i, _, h => by cases h; exact .int i
  | .str x, _, h => by cases h; exact .str x
  | .lst ds, _, h => by
    cases h with
    | lst n ha hs => exact .lst (f _ n (by rw [ha]; exact fun z => nomatch z)) ha (DtA.set f ds hs)
  | .tup ds, _, h => by
    cases h with
    | tup n ha hs => exact .tup (f _ n (by rw [ha]; exact fun z => nomatch z)) ha (DtA.set f ds hs)
  | .ins C ns ds, _, h => by
    cases h with
    | ins n ha hn hs => exact .ins (f _ n (by rw [ha]; exact fun z => nomatch z)) ha hn (DtA.set f ds hs)
  | .ptr a, _, h => by cases h; exact .ptr a
  | .ty n, _, h => by cases h; exact .ty n
  | .opq a o, _, h => by
    cases h with
    | opq n ha => exact .opq (f _ n (by rw [ha]; exact fun z => nomatch z)) ha
  | .ftp ds, _, h => by
    cases h with
    | ftp n ha hd hs => exact .ftp (f _ n (by rw [ha]; exact fun z => nomatch z)) ha hd (DtA.set f ds hs)
theorem DtA.set (f : ∀ a, ¬ S a → H a ≠ none → ¬ S' a) : ∀ (ds : List D) {vs : List V}, DtA S H vs ds → DtA S' H vs ds
  | [], _, h => by cases h; exact .nil
  | d :: ds, _, h => by
    cases h with
    | cons h1 h2 => exact .cons (Dt.set f d h1) (DtA.set f ds h2)
end
theorem Dt.go {d : D} {v : V} (h : Dt S H v d) (e : Ext S H H') : Dt S H' v d := Dt.mono e d h
theorem Dt.sm {d : D} {v : V} (h : Dt S H v d) (e : Same H H') : Dt S H' v d := Dt.mono (Ext.of e) d h
theorem DtA.go {d : List D} {v : List V} (h : DtA S H v d) (e : Ext S H H') : DtA S H' v d := DtA.mono e d h
theorem DtA.sm {d : List D} {v : List V} (h : DtA S H v d) (e : Same H H') : DtA S H' v d := DtA.mono (Ext.of e) d h
/-- a new object may change from now on -/
theorem Dt.fresh {d : D} {v : V} {l : Addr} (h : Dt S H v d) (hl : H l = none) : Dt (fun a => S a ∨ a = l) H v d :=
  Dt.set (fun a n k z => z.elim n fun q => k (by rw [q]; exact hl)) d h
theorem DtA.length : ∀ {vs : List V} {ds : List D}, DtA S H vs ds → vs.length = ds.length
  | _, _, .nil => rfl
  | _, _, .cons _ t => congrArg Nat.succ (DtA.length t)
theorem DtA.append : ∀ {vs ws : List V} {ds es : List D}, DtA S H vs ds → DtA S H ws es → DtA S H (vs ++ ws) (ds ++ es)
  | _, _, _, _, .nil, k => k
  | _, _, _, _, .cons h t, k => .cons h (DtA.append t k)
theorem DtA.snoc {vs : List V} {ds : List D} {v : V} {d : D} (h : DtA S H vs ds) (k : Dt S H v d) : DtA S H (vs ++ [v]) (ds ++ [d]) := h.append (.cons k .nil)
theorem DtA.get : ∀ {vs : List V} {ds : List D} {i : Nat} {d : D}, DtA S H vs ds → ds[i]? = some d → ∃ v, vs[i]? = some v ∧ Dt S H v d
  | _, _, _, _, .nil, e => by simp at e
  | _, _, 0, _, .cons h _, e => by
    simp at e
    subst e
    exact ⟨_, rfl, h⟩
  | _, _, i + 1, d, .cons _ t, e => by
    obtain ⟨v, h1, h2⟩ := DtA.get (i := i) (d := d) t (by simpa using e)
    exact ⟨v, by simpa using h1, h2⟩
theorem DtA.getV : ∀ {vs : List V} {ds : List D} {i : Nat} {v : V}, DtA S H vs ds → vs[i]? = some v → ∃ d, ds[i]? = some d ∧ Dt S H v d
  | _, _, _, _, .nil, e => by simp at e
  | _, _, 0, _, .cons h _, e => by
    simp at e
    subst e
    exact ⟨_, rfl, h⟩
  | _, _, i + 1, d, .cons _ t, e => by
    obtain ⟨v, h1, h2⟩ := DtA.getV (i := i) (v := d) t (by simpa using e)
    exact ⟨v, by simpa using h1, h2⟩
theorem DtA.take : ∀ {vs : List V} {ds : List D} (n : Nat), DtA S H vs ds → DtA S H (vs.take n) (ds.take n)
  | _, _, 0, _ => .nil
  | _, _, _ + 1, .nil => .nil
  | _, _, n + 1, .cons h t => .cons h (DtA.take n t)
theorem DtA.drop : ∀ {vs : List V} {ds : List D} (n : Nat), DtA S H vs ds → DtA S H (vs.drop n) (ds.drop n)
  | _, _, 0, h => h
  | _, _, _ + 1, .nil => .nil
  | _, _, n + 1, .cons _ t => DtA.drop n t
theorem DtA.reverse : ∀ {vs : List V} {ds : List D}, DtA S H vs ds → DtA S H vs.reverse ds.reverse
  | _, _, .nil => .nil
  | _, _, .cons h t => by
    rw [List.reverse_cons, List.reverse_cons]
    exact (DtA.reverse t).snoc h
theorem DtA.strs_eq : ∀ {vs : List V} {l : List Str}, DtA S H vs (l.map D.str) → vs = l.map V.str
  | _, [], h => by cases h; rfl
  | _, x :: l, h => by
    cases h with
    | cons h1 h2 =>
      cases h1
      rw [DtA.strs_eq h2]
      rfl
theorem DtA.ints_eq : ∀ {vs : List V} {l : List Int}, DtA S H vs (l.map D.int) → vs = l.map V.int
  | _, [], h => by cases h; rfl
  | _, x :: l, h => by
    cases h with
    | cons h1 h2 =>
      cases h1
      rw [DtA.ints_eq h2]
      rfl
theorem DtA.bls_eq : ∀ {vs : List V} {l : List Bool}, DtA S H vs (l.map D.bl) → vs = l.map V.bl
  | _, [], h => by cases h; rfl
  | _, x :: l, h => by
    cases h with
    | cons h1 h2 =>
      cases h1
      rw [DtA.bls_eq h2]
      rfl
end
mutual
def D.py : D → Option PyData
  | .non => some .none
  | .bl b => some (.bool b)
  | .int i => some (.int i)
  | .str x => some (.str x)
  | .lst ds => (D.pys ds).map .list
  | .tup ds => (D.pys ds).map .tuple
  | .ftp ds => (D.pys ds).map .tuple
  | _ => none
def D.pys : List D → Option (List PyData)
  | [] => some []
  | d :: ds => match D.py d, D.pys ds with
    | some p, some q => some (p :: q)
    | _, _ => none
end
mutual
theorem Dt.dp {K : PySem.W.Frag} {S : Addr → Prop} {H : Hp} : ∀ (d : D) {v : V} {p : PyData}, Dt S H v d → D.py d = some p → Dp K H v p
  | .non, _, _, h, e => by cases h; cases e; exact .non
  | .bl b, _, _, h, e => by cases h; cases e; exact .bl b
  | .int i, _, _, h, e => by cases h; cases e; exact .int i
  | .str x, _, _, h, e => by cases h; cases e; exact .str x
  | .lst ds, _, _, h, e => by
    cases h with
    | lst n ha hs =>
      rw [D.py] at e
      cases q : D.pys ds with
      | none => rw [q] at e; cases e
      | some l =>
        rw [q] at e
        cases e
        exact .lst (SqL.of ha) (DtA.dp ds hs q)
  | .tup ds, _, _, h, e => by
    cases h with
    | tup n ha hs =>
      rw [D.py] at e
      cases q : D.pys ds with
      | none => rw [q] at e; cases e
      | some l =>
        rw [q] at e
        cases e
        exact .tup (SqT.of ha) (DtA.dp ds hs q)
  | .ins C ns ds, _, _, h, e => by rw [D.py] at e <;> first | cases e | (intros; contradiction)
  | .ptr a, _, _, h, e => by rw [D.py] at e <;> first | cases e | (intros; contradiction)
  | .ty a, _, _, h, e => by rw [D.py] at e <;> first | cases e | (intros; contradiction)
  | .opq a o, _, _, h, e => by rw [D.py] at e <;> first | cases e | (intros; contradiction)
  | .ftp ds, _, _, h, e => by
    cases h with
    | ftp n ha hd hs =>
      rw [D.py] at e
      cases q : D.pys ds with
      | none => rw [q] at e; cases e
      | some l =>
        rw [q] at e
        cases e
        exact .tup (Or.inl (Or.inr ⟨_, ha⟩)) (DtA.dp ds hs q)
theorem DtA.dp {K : PySem.W.Frag} {S : Addr → Prop} {H : Hp} : ∀ (ds : List D) {vs : List V} {ps : List PyData}, DtA S H vs ds → D.pys ds = some ps → DpAll K H vs ps
  | [], _, _, h, e => by cases h; rw [D.pys] at e; cases e; exact .nil
  | d :: ds, _, _, h, e => by
    cases h with
    | cons h1 h2 =>
      rw [D.pys] at e
      cases q1 : D.py d with
      | none => rw [q1] at e; cases e
      | some p =>
        cases q2 : D.pys ds with
        | none => rw [q1, q2] at e; cases e
        | some ps =>
          rw [q1, q2] at e
          cases e
          exact .cons (Dt.dp d h1 q1) (DtA.dp ds h2 q2)
end
end U
namespace U
open PySem PySem.Spec PyProof.Rows L2
/-- a def's promise where no show is under way -/
structure FnG (P : Program) (w : World) (K : PySem.W.Frag) (mg : Str → Option Value) (base : Heap) (k : Nat) (f : Addr) (fd : FuncData) (ps : List Str) (sp : Sp) : Prop where
  len : ∀ vs H Q E, sp vs H Q E → vs.length = ps.length
  run : ∀ (A : Around) (outer : List Env) (s : Shared) (H : Hp) (args : Args) (us : List Value) (vs : List V) (Q : VK) (E : XK), Room k A → A.guards = some [] →
    Env0 P w K mg base A outer s H → BindsTo s fd args (ps.zip us) → Vals vs us → sp vs H Q E → codeAny (model P w) A (.call (.ref f) args) (CR L2.CX0 outer P w H s Q E) s
section
variable {P : Program} {w : World} {K : PySem.W.Frag} {mg : Str → Option Value} {base : Heap} {x qual : Str} {st : Stmt} {f : Addr} {fd : FuncData} {N ps : List Str} {k : Nat} {sp : Sp}
/-- by its body -/
theorem fnG_of (F : L2.Fun K x qual st f fd) (S : FnScope N ps (L2.defScope st)) (len : ∀ vs H Q E, sp vs H Q E → vs.length = ps.length)
    (hb : ∀ (cdv : Value) (A : Around) (outer : List Env) (s : Shared) (H : Hp) (vs : List V) (Q : VK) (E : XK), Room k (A.deeper (envOfC qual (L2.defScope st) s.heap.objs.size f cdv)) → A.guards = some [] → sp vs H Q E →
      ∃ t, PSs (cxOf L2.CX0 P w K mg base N qual (L2.defScope st) f cdv A outer s H E).nox (L2.defBody st) t ∧ t { nx := fun _ H' => Q .non H', rt := Q } (start N vs) H) :
    FnG P w K mg base (k + 1) f fd ps sp := by
  obtain ⟨oc, od, kV, doc, pm, an, cdv, ct, osl, rfl, lk, hcd⟩ := F.ex
  refine ⟨len, fun A outer s H args us vs Q E hr hg e0 hbd r hsp => ?_⟩
  have hl : vs.length = ps.length := len _ _ _ _ hsp
  have KX : K.In s.heap := e0.mod.kin.keeps (fun b o e => (e0.bs b o e).1)
  have lim : s.heap.NoLimit := e0.mod.nolimit.keeps (fun b o e => (e0.bs b o e).1)
  have kinds : ∀ y ∈ ps.zip us, (L2.defScope st).names.lookup y.1 = some .local ∨ ((L2.defScope st).names.lookup y.1 = some .cell ∧ ((cellsFrom (s.heap.objs.size + 1) (L2.defScope st).names []).lookup y.1).isSome = true) := by
    rintro ⟨n, v⟩ hy
    rcases S.par n (List.of_mem_zip hy).1 with q | q
    · exact Or.inl q
    · exact Or.inr ⟨q, PySem.W.cellsFrom_some _ _ _ (Or.inl q)⟩
  have lkd := KX _ _ lk
  have crec := PySem.W.codeRec_of KX hcd
  refine codeAny_call_function hr.depth lkd rfl S.co S.gen rfl crec (hbd _ _ _ _ ?_)
  refine wpAny_newFunctionEnv_cells S.kind kinds (fun env he s1 z => ?_)
  subst he
  refine ⟨lim.keeps z.toInCall.keep, codeAny_func ?_⟩
  have hr1 := hr.deeper (envOfC qual (L2.defScope st) s.heap.objs.size f cdv)
  obtain ⟨t, ht0, hq⟩ := hb cdv A outer s H vs Q E hr1 hg hsp
  have ht := ht0.nox
  have I := inv_start (CX := L2.CX0) (E := E) S hr.hd e0 hl r z
  have go := ht.run [] s1 (start N vs) H _ I hq
  refine wpAny_mono go ?_ (fun e s' hs => hs)
  intro fl s' hs
  cases fl with
  | next =>
    obtain ⟨σ', H', J, q⟩ := hs
    exact ⟨V.non, H', J.os, J.bare, J.base, J.hok, rfl, q⟩
  | brk =>
    obtain ⟨_, _, _, q⟩ := hs
    exact q.elim
  | cont =>
    obtain ⟨_, _, _, q⟩ := hs
    exact q.elim
  | ret u =>
    obtain ⟨v, σ', H', J, rv, q⟩ := hs
    exact ⟨v, H', J.os, J.bare, J.base, J.hok, rv, q⟩
end
section
variable {X : Cx} {k : Nat} {f C : Addr} {fd : FuncData} {ps ks : List Str} {sp : Sp} {x : Str} {p pos : Pos} {e : Expr} {es : List Expr} {t tk : TA} {kws : List Keyword}
/-- x(e, ..), x a def with such a promise -/
theorem pe_callG (F : FnG X.prog X.w X.K X.mg X.base k f fd ps sp) (hr : Room k X.A) (hgd : X.A.guards = some []) (hg : Gl X x) (hm : X.mg x = some (.ref f)) (hk : PySem.W.keepIn X.K (.ref f) = true) (hb : Binds X.K fd ps [])
    (ha : PA X (e :: es) t) (hdb : (x == ("__debug__" : Str)) = false := by decide) (he : starEach (e :: es) X.env = (false, eval e X.env) :: starEach es X.env := by rfl) (hpl : (backTo pos (starEach es X.env)).any (·.1) = false := by rfl) :
    PE X (.Call (.Name x p) (e :: es) [] pos) (tCall sp [] L2.E0 t) := by
  refine ⟨fun pins s σ H Q I h => wpAny_Call_Name_kw (ld_glob I hg hm ?_ hdb)⟩
  have ga := thn (ha.run pos pins s σ H _ I h) (Q' := fun us s1 => X.K.In s1.heap ∧ wpAny (model X.prog X.w) X.A (call (.ref f) us) (EP X pins σ Q) X.xe s1) (fun us s1 hh => by
    obtain ⟨vs, H1, I1, r, q⟩ := hh
    rw [List.append_nil] at q
    refine ⟨I1.kIn, ?_⟩
    have hl : (us ++ []).length = ps.length := by rw [List.append_nil, ← r.length]; exact F.len _ _ _ _ q
    have hbt := hb s1 us I1.kIn hl
    rw [List.append_nil] at hbt
    refine wpAny_call (codeAny_mono (F.run X.A X.stack s1 H1 ⟨us, []⟩ us vs Q L2.E0 hr hgd I1.env0 hbt r q) ?_)
    intro r' s' hq
    cases r' with
    | error z => exact False.elim hq
    | ok fl =>
      cases fl with
      | ret u => exact I1.after hq
      | next => exact False.elim hq
      | brk => exact False.elim hq
      | cont => exact False.elim hq)
  exact PySem.W.callWith_K (h₀ := X.base) I.ok.mod.kin hk ga he hpl
end
def rRepr (K : PySem.W.Frag) : List V → Hp → VK → Prop := fun xs H Q => ∃ (v : V) (p : PyData), xs = [v] ∧ Dp K H v p ∧ PyData.showable p = true ∧ PyData.hasDict p = false ∧ PyData.depth p ≤ 40 ∧ (PyData.shown p).length ≤ sizeLine ∧ Q (.str (PyData.shown p)) H
end U
namespace U
open PySem PySem.Spec PyProof.Rows L2
section
variable {P : Program} {w : World} {H H1 H2 : Hp} {h h' : Heap} {p : Addr} {o : HO} {φ : Heap → Prop} {fs ex : List Addr}
theorem hok_in (ok : HOk P w H h) (hp : H p = some (.ext φ)) (new : ObjOk P w (upd H p o) h p o) : HOk P w (upd H p o) h := by
  intro b u e
  by_cases hb : b = p
  · subst hb
    rw [upd_same] at e
    cases e
    exact new
  · rw [upd_ne hb] at e
    refine (ok b u e).stay (fun c v _ q => q) (fun c q => ?_) (fun c xs q => ?_)
    · rw [upd_ne (fun z => by rw [z, hp] at q; cases q)]
      exact q
    · rw [upd_ne (fun z => by rw [z, hp] at q; cases q)]
      exact q
theorem hok_out {xs : List V} (ok : HOk P w H h) (hp : H p = some (.lst xs)) (hφ : φ h) (st : ∀ h1 h2 : Heap, φ h1 → (∀ u, h1.get? p = some u → h2.get? p = some u) → φ h2) : HOk P w (upd H p (.ext φ)) h := by
  intro b u e
  by_cases hb : b = p
  · subst hb
    rw [upd_same] at e
    cases e
    obtain ⟨_, its, n, _, z⟩ := ok _ _ hp
    exact ⟨hφ, ⟨_, z⟩, st⟩
  · rw [upd_ne hb] at e
    refine (ok b u e).stay (fun c v _ q => q) (fun c q => ?_) (fun c xs q => ?_)
    · rw [upd_ne (fun z => by rw [z, hp] at q; cases q)]
      exact q
    · rw [upd_ne (fun z => by rw [z, hp] at q; cases q)]
      exact q
theorem un_in (u : Un fs ex (upd H p o) H1 h h') (hp : H p = some (.ext φ)) : Un fs ex H H1 h h' := by
  have nn : ∀ b, H b = none → upd H p o b = none := fun b n => by
    rw [upd_ne (fun z => by rw [z, hp] at n; cases n)]
    exact n
  have ne : ∀ b v, H b = some v → (∀ ψ, v ≠ .ext ψ) → upd H p o b = some v := fun b v e n => by
    rw [upd_ne (fun z => by rw [z, hp] at e; cases e; exact n _ rfl)]
    exact e
  exact ⟨fun b v e n => u.keep b v e (nn b n), fun b v e n => u.slot b v e (nn b n), fun b v e n => u.free b v e (nn b n), u.there,
    fun b xs e => u.tups b xs (ne b _ e (fun _ z => nomatch z)), fun b v t e => u.frzs b v t (ne b _ e (fun _ z => nomatch z)), fun b ps e => u.tbls b ps (ne b _ e (fun _ z => nomatch z))⟩
theorem un_out {xs : List V} (u : Un fs ex H H1 h h') (hp : H1 p = some (.lst xs)) : Un fs ex H (upd H1 p (.ext φ)) h h' := by
  have ne : ∀ b v, H1 b = some v → (∀ ys, v ≠ .lst ys) → upd H1 p (.ext φ) b = some v := fun b v e n => by
    rw [upd_ne (fun z => by rw [z, hp] at e; cases e; exact n _ rfl)]
    exact e
  refine ⟨u.keep, u.slot, fun b v e n hx => ?_, u.there, fun b xs e => ne b _ (u.tups b xs e) (fun _ z => nomatch z), fun b v t e => ne b _ (u.frzs b v t e) (fun _ z => nomatch z), fun b ps e => ?_⟩
  · have z := u.free b v e n hx
    rw [upd_ne (fun q => by rw [q, hp] at z; cases z)]
    exact z
  · obtain ⟨m, e1⟩ := u.tbls b ps e
    exact ⟨m, ne b _ e1 fun _ z => nomatch z⟩
end
def potP (p : Addr) : Heap → Prop := fun h => ∃ (a b c : Int) (its : List Value) (n : Nat), Vals [.int a, .int b, .int c] its ∧ h.get? p = some { cls := .type "list", data := .seq its.toArray n }
def potO (p : Addr) : HO := .ext (potP p)
def Pot (H : Hp) (p : Addr) : Prop := H p = some (potO p)
def potL (a b c : Int) : HO := .lst [.int a, .int b, .int c]
theorem pot_st {p : Addr} : ∀ h1 h2 : Heap, potP p h1 → (∀ u, h1.get? p = some u → h2.get? p = some u) → potP p h2 := fun h1 h2 ⟨a, b, c, its, n, v, e⟩ k => ⟨a, b, c, its, n, v, k _ e⟩
theorem Pot.sm {H H' : Hp} {p : Addr} (h : Pot H p) (e : Same H H') : Pot H' p := e _ _ h
theorem Pot.go {S : Addr → Prop} {H H' : Hp} {p : Addr} (h : Pot H p) (e : Ext S H H') (n : ¬ S p) : Pot H' p := e _ _ n h
section
variable {P : Program} {w : World} {K : PySem.W.Frag} {mg : Str → Option Value} {base : Heap} {k : Nat} {f : Addr} {fd : FuncData} {ps : List Str} {sp sp' : Sp}
/-- a def that changes the pot: from its promise over the list itself -/
theorem fn_pot (F : FnOk P w K mg base L2.CX0 k f fd ps sp) (len : ∀ vs H Q E, sp' vs H Q E → vs.length = ps.length)
    (go : ∀ vs H Q E, sp' vs H Q E → ∃ p, Pot H p ∧ ∀ a b c, sp vs (upd H p (potL a b c)) (fun v H' => (∃ x y z, H' p = some (potL x y z)) ∧ Q v (upd H' p (potO p))) E) :
    FnOk P w K mg base L2.CX0 k f fd ps sp' := by
  refine ⟨len, fun A outer s H args us vs Q E hr e0 hb r hsp => ?_⟩
  obtain ⟨p, hp, g⟩ := go _ _ _ _ hsp
  obtain ⟨⟨a, b, c, its, n, rv, hget⟩, _, _⟩ := e0.hok p _ hp
  have np : ∀ b, H b = none → upd H p (potL a b c) b = none := fun b z => by
    rw [upd_ne (fun q => by rw [q, hp] at z; cases z)]
    exact z
  have np' : ∀ q, H q = none → upd H p (potL a b c) q = none := fun q z => by
    rw [upd_ne (fun t => by rw [t, hp] at z; cases z)]
    exact z
  have e1 : Env0 P w K mg base A outer s (upd H p (potL a b c)) :=
    ⟨e0.frames, e0.mod, fun q o e => ⟨(e0.bs q o e).1, np' q (e0.bs q o e).2⟩, e0.bsz, e0.funs, fun q hq => np' q (e0.frf q hq), hok_in e0.hok hp ⟨by show 3 ≤ sizeLine; decide, its, n, rv, hget⟩, e0.bare⟩
  refine codeAny_mono (F.run A outer s _ args us vs _ E hr e1 hb r (g a b c)) ?_
  intro r' s' hq
  cases r' with
  | error z => exact hq
  | ok fl =>
    cases fl with
    | next => exact hq
    | brk => exact hq
    | cont => exact hq
    | ret u =>
      obtain ⟨v, H', os, bare, un, hok', rel, ⟨x, y, z, hx⟩, q⟩ := hq
      have un2 := un_out (φ := potP p) (un_in un hp) hx
      obtain ⟨_, its', n', rv', e'⟩ := hok' p _ hx
      exact ⟨v, _, os, bare, un2, hok_out hok' hx ⟨x, y, z, its', n', rv', e'⟩ pot_st, rel, q⟩
/-- a def that makes a pot -/
theorem fn_potOut (F : FnOk P w K mg base L2.CX0 k f fd ps sp) (len : ∀ vs H Q E, sp' vs H Q E → vs.length = ps.length)
    (go : ∀ vs H Q E, sp' vs H Q E → sp vs H (fun v H' => ∃ p x y z, H' p = some (potL x y z) ∧ Q v (upd H' p (potO p))) E) :
    FnOk P w K mg base L2.CX0 k f fd ps sp' := by
  refine ⟨len, fun A outer s H args us vs Q E hr e0 hb r hsp => ?_⟩
  refine codeAny_mono (F.run A outer s _ args us vs _ E hr e0 hb r (go _ _ _ _ hsp)) ?_
  intro r' s' hq
  cases r' with
  | error z => exact hq
  | ok fl =>
    cases fl with
    | next => exact hq
    | brk => exact hq
    | cont => exact hq
    | ret u =>
      obtain ⟨v, H', os, bare, un, hok', rel, p, x, y, z, hx, q⟩ := hq
      obtain ⟨_, its', n', rv', e'⟩ := hok' p _ hx
      exact ⟨v, _, os, bare, un_out (φ := potP p) un hx, hok_out hok' hx ⟨x, y, z, its', n', rv', e'⟩ pot_st, rel, q⟩
end
/-- a draw: a number below n -/
def spDraw : Sp := fun vs H Q _ => ∃ (p : Addr) (n : Int), vs = [.ref p, .int n] ∧ Pot H p ∧ (0 < n ∧ n < 1073741824) ∧ ∀ (r : Int) (H' : Hp), Same H H' → 0 ≤ r → r < n → Q (.int r) H'
/-- .. over the list itself -/
def spDraw1 : Sp := fun vs H Q _ => ∃ (p : Addr) (n a b c : Int), vs = [.ref p, .int n] ∧ H p = some (potL a b c) ∧ (0 < n ∧ n < 1073741824) ∧
  ∀ (r x y z : Int) (H' : Hp), Ext (fun q => q = p) H H' → H' p = some (potL x y z) → 0 ≤ r → r < n → Q (.int r) H'
theorem fn_draw {P : Program} {w : World} {K : PySem.W.Frag} {mg : Str → Option Value} {base : Heap} {k : Nat} {f : Addr} {fd : FuncData} {ps : List Str} (F : FnOk P w K mg base L2.CX0 k f fd ps spDraw1) (h2 : ps.length = 2) : FnOk P w K mg base L2.CX0 k f fd ps spDraw := by
  refine fn_pot F (fun vs H Q E h => ?_) (fun vs H Q E h => ?_)
  · obtain ⟨p, n, rfl, _⟩ := h
    rw [h2]
    rfl
  · obtain ⟨p, n, rfl, hp, hn, q⟩ := h
    refine ⟨p, hp, fun a b c => ⟨p, n, a, b, c, rfl, upd_same, hn, fun r x y z H' e hx h0 h1 => ⟨⟨x, y, z, hx⟩, q r _ (fun c o hc => ?_) h0 h1⟩⟩⟩
    by_cases hb : c = p
    · subst hb
      rw [show H c = some (potO c) from hp] at hc
      cases hc
      exact upd_same
    · rw [upd_ne hb]
      exact e c o hb (by rw [upd_ne hb]; exact hc)
def spPot1 (K : PySem.W.Frag) : Sp := fun vs H Q _ => ∃ (a : Addr) (ns : List Int) (i : Nat), vs = [.ref a, .int i] ∧ SqL K H a (ns.map V.int) ∧ ns.length ≤ 63 ∧ i ≤ 63 ∧
  ∀ (p : Addr) (x y z : Int) (H' : Hp), Same H H' → H p = none → H' p = some (potL x y z) → Q (.ref p) H'
end U
namespace U
open PySem PySem.Spec PyProof.Rows L2
section
variable {X : Cx}
def rAddU : R2 := fun x y H Q => match x, y with
  | .int i, .int j => Q (.int (i + j)) H
  | .str a, .str b => a.length + b.length ≤ sizeLine ∧ Q (.str (a ++ b)) H
  | .ref p, .ref q => ∃ xs ys, H p = some (.lst xs) ∧ H q = some (.lst ys) ∧ xs.length + ys.length ≤ sizeLine ∧ ∀ r, H r = none → Q (.ref r) (upd H r (.lst (xs ++ ys)))
  | _, _ => False
theorem op_addU : OpR X (binaryOp .Add) rAddU := by
  intro pins s σ H x y v u Q I rx ry h
  cases x with
  | int i =>
    cases y with
    | int j => exact op_add pins s σ H _ _ v u Q I rx ry ⟨i, j, rfl, rfl, h⟩
    | _ => exact h.elim
  | str a =>
    cases y with
    | str b => exact op_add_str pins s σ H _ _ v u Q I rx ry ⟨a, b, rfl, rfl, h.1, h.2⟩
    | _ => exact h.elim
  | ref p =>
    cases y with
    | ref q =>
      obtain ⟨xs, ys, h1, h2, h3, h4⟩ := h
      exact op_cat pins s σ H _ _ v u Q I rx ry ⟨p, q, xs, ys, rfl, rfl, h1, h2, h3, h4⟩
    | _ => exact h.elim
  | _ => exact h.elim
/-- == of anything: data by their contents -/
def rEqU (K : PySem.W.Frag) : R2 := fun x y H Q => match x, y with
  | .ref p, .ref q => ∃ d e, Dp K H (.ref p) d ∧ Dp K H (.ref q) e ∧ SeqAt.shaped d = true ∧ SeqAt.shaped e = true ∧ Q (.bl (PyData.eqv d e)) H
  | x, y => scal x y = true ∧ Q (.bl (decide (x = y))) H
def rNeU (K : PySem.W.Frag) : R2 := fun x y H Q => match x, y with
  | .ref p, .ref q => ∃ d e, Dp K H (.ref p) d ∧ Dp K H (.ref q) e ∧ SeqAt.shaped d = true ∧ SeqAt.shaped e = true ∧ Q (.bl (!PyData.eqv d e)) H
  | x, y => scal x y = true ∧ Q (.bl (!decide (x = y))) H
def rLtU : R2 := fun x y H Q => match x, y with
  | .int i, .int j => Q (.bl (decide (i < j))) H
  | .str i, .str j => Q (.bl (decide (i.cps.toList < j.cps.toList))) H
  | _, _ => False
theorem op_ltU : OpR X (compareOp .Lt) rLtU := by
  intro pins s σ H x y v u Q I rx ry h
  cases x with
  | int i =>
    cases y with
    | int j => exact op_lt pins s σ H _ _ v u Q I rx ry ⟨i, j, rfl, rfl, h⟩
    | _ => exact h.elim
  | str a =>
    cases y with
    | str b => exact op_lt_str pins s σ H _ _ v u Q I rx ry ⟨a, b, rfl, rfl, h⟩
    | _ => exact h.elim
  | _ => exact h.elim
/-- in, not in: a sign in a text, a flat thing in a list or tuple of flat things -/
def rInU (K : PySem.W.Frag) : R2 := fun x y H Q => match y with
  | .str z => ∃ c, x = .str ⟨#[c]⟩ ∧ Q (.bl (decide (c ∈ z.cps.toList))) H
  | .ref p => ∃ xs, (SqL K H p xs ∨ SqT K H p xs) ∧ flatV x = true ∧ xs.all flatV = true ∧ Q (.bl (inV x xs)) H
  | _ => False
def rNinU (K : PySem.W.Frag) : R2 := fun x y H Q => match y with
  | .str z => ∃ c, x = .str ⟨#[c]⟩ ∧ Q (.bl (!decide (c ∈ z.cps.toList))) H
  | .ref p => ∃ xs, (SqL K H p xs ∨ SqT K H p xs) ∧ flatV x = true ∧ xs.all flatV = true ∧ Q (.bl (!inV x xs)) H
  | _ => False
/-- x[i] of a list, a tuple, a text -/
def rIxU (K : PySem.W.Frag) : R2 := fun x y H Q => match x, y with
  | .ref p, .int i => ∃ xs v, (SqL K H p xs ∨ SqT K H p xs) ∧ atI xs i = some v ∧ Q v H
  | .str z, .int i => ∃ c, z.length ≤ sizeLine ∧ atI z.cps.toList i = some c ∧ Q (.str ⟨#[c]⟩) H
  | _, _ => False
theorem ix_U : IxR X (rIxU X.K) := by
  intro value slice pins s σ H x y v u Q I rx ry h hs
  refine ix_seq value slice pins s σ H x y v u Q I rx ry ?_ hs
  cases x with
  | ref p =>
    cases y with
    | int i =>
      obtain ⟨xs, w, h1, h2, q⟩ := h
      rcases h1 with h1 | h1
      · exact .inl ⟨p, xs, i, w, rfl, rfl, h1, h2, q⟩
      · exact .inr (.inl ⟨p, xs, i, w, rfl, rfl, h1, h2, q⟩)
    | _ => exact h.elim
  | str z =>
    cases y with
    | int i =>
      obtain ⟨c, h1, h2, q⟩ := h
      exact .inr (.inr ⟨z, i, c, rfl, rfl, h1, h2, q⟩)
    | _ => exact h.elim
  | _ => exact h.elim
/-- x[i:j] of a list, a text, a tuple that is not taken whole -/
def Sli (K : PySem.W.Frag) (H : Hp) (a : Addr) (lo hi : Option Int) (o : HO) : Prop := (∃ xs, SqL K H a xs ∧ o = .lst (cutV xs lo hi)) ∨
  (∃ xs, SqT K H a xs ∧ ¬ (HT.sIx xs.length 0 lo = 0 ∧ HT.sIx xs.length xs.length hi = xs.length) ∧ o = .tup (cutV xs lo hi))
def rSlU (K : PySem.W.Frag) : V → Option Int → Option Int → Hp → VK → Prop := fun x lo hi H Q => match x with
  | .ref a => ∃ o, Sli K H a lo hi o ∧ ∀ p, H p = none → Q (.ref p) (upd H p o)
  | .str z => z.length ≤ sizeLine ∧ Q (.str (cutS z lo hi)) H
  | _ => False
theorem sl_U : SlR X (rSlU X.K) := by
  intro pins s σ H x v vl vu lo hi sl Q I rx hs pl pu h
  cases x with
  | ref a =>
    obtain ⟨o, h, q⟩ := h
    rcases h with ⟨xs, h1, rfl⟩ | ⟨xs, h1, h2, rfl⟩
    · exact sl_list pins s σ H _ v vl vu lo hi sl Q I rx hs pl pu ⟨a, xs, rfl, h1, q⟩
    · exact sl_tup pins s σ H _ v vl vu lo hi sl Q I rx hs pl pu ⟨a, xs, rfl, h1, h2, q⟩
  | str z => exact sl_str pins s σ H _ v vl vu lo hi sl Q I rx hs pl pu ⟨z, rfl, h.1, h.2⟩
  | _ => exact h.elim
theorem sli_l {K : PySem.W.Frag} {H : Hp} {a : Addr} {lo hi : Option Int} {xs : List V} (h : SqL K H a xs) : Sli K H a lo hi (.lst (cutV xs lo hi)) := .inl ⟨xs, h, rfl⟩
def rLenU (K : PySem.W.Frag) : List V → Hp → VK → Prop := fun xs H Q => match xs with
  | [.str z] => z.length ≤ sizeLine ∧ Q (.int z.length) H
  | [.ref p] => ∃ ys, (SqL K H p ys ∨ SqT K H p ys) ∧ Q (.int ys.length) H
  | _ => False
theorem call_lenU : CallR X (.builtin "len") (rLenU X.K) := by
  intro pins s σ H xs us Q I r h
  match xs, h with
  | [.str z], h => exact call_len_str pins s σ H _ us Q I r ⟨z, rfl, h.1, h.2⟩
  | [.ref p], h =>
    obtain ⟨ys, h1, q⟩ := h
    exact call_len_seq pins s σ H _ us Q I r ⟨p, ys, rfl, h1, q⟩
/-- int(n) of an int -/
def rInt1 : List V → Hp → VK → Prop := fun xs H Q => match xs with
  | [.int i] => Q (.int i) H
  | _ => False
theorem call_intU : CallR X (.type "int") rInt1 := by
  intro pins s σ H xs us Q I r h
  match xs, h with
  | [.int i], h => exact call_int1 pins s σ H _ us Q I r (.inl ⟨i, rfl, h⟩)
def rI1 (f : Int → V) : List V → Hp → VK → Prop := fun xs H Q => match xs with
  | [.int i] => Q (f i) H
  | _ => False
def rI2 (f : Int → Int → V) : List V → Hp → VK → Prop := fun xs H Q => match xs with
  | [.int i, .int j] => Q (f i j) H
  | _ => False
theorem call_absU : CallR X (.builtin "abs") (rI1 fun i => .int (if i < 0 then -i else i)) := by
  intro pins s σ H xs us Q I r h
  match xs, h with
  | [.int i], h => exact call_abs pins s σ H _ us Q I r ⟨i, rfl, h⟩
theorem call_maxU (hc : X.calm = true) : CallR X (.builtin "max") (rI2 fun i j => .int (if j > i then j else i)) := by
  intro pins s σ H xs us Q I r h
  match xs, h with
  | [.int i, .int j], h => exact call_max2 hc pins s σ H _ us Q I r ⟨i, j, rfl, h⟩
theorem call_minU (hc : X.calm = true) : CallR X (.builtin "min") (rI2 fun i j => .int (if j < i then j else i)) := by
  intro pins s σ H xs us Q I r h
  match xs, h with
  | [.int i, .int j], h => exact call_min2 hc pins s σ H _ us Q I r ⟨i, j, rfl, h⟩
end
section
variable {σ : L2.St} {H : Hp} {Q : VK} {K : PySem.W.Frag} {D' : Ends}
theorem e_var {i : Nat} : tVar i σ H Q = ∃ v, σ[i]? = some (some v) ∧ Q v H := rfl
theorem e_c {v : V} : tC v σ H Q = Q v H := rfl
theorem e_op {r : R2} {ta tb : TE} : tOp r ta tb σ H Q = ta σ H fun x H1 => tb σ H1 fun y H2 => r x y H2 Q := rfl
theorem e_un {r : V → Hp → VK → Prop} {ta : TE} : tUn r ta σ H Q = ta σ H fun x H1 => r x H1 Q := rfl
theorem e_nil {R : List V → Hp → Prop} : tNil σ H R = R [] H := rfl
theorem e_cons {ta : TE} {tr : TA} {R : List V → Hp → Prop} : tCons ta tr σ H R = ta σ H fun x H1 => tr σ H1 fun xs H2 => R (x :: xs) H2 := rfl
theorem e_cb {r : List V → Hp → VK → Prop} {t : TA} : tCB r t σ H Q = t σ H fun vs H1 => r vs H1 Q := rfl
theorem e_call {sp : Sp} {dvs : List V} {E : XK} {t : TA} : tCall sp dvs E t σ H Q = t σ H fun vs H1 => sp (vs ++ dvs) H1 Q E := rfl
theorem e_tup {t : TA} : tTup t σ H Q = t σ H fun xs H1 => xs.length ≤ sizeLine ∧ ∀ p, H1 p = none → Q (.ref p) (upd H1 p (.tup xs)) := rfl
theorem e_lst {t : TA} : tLst t σ H Q = t σ H fun xs H1 => xs.length ≤ sizeLine ∧ ∀ p, H1 p = none → Q (.ref p) (upd H1 p (.lst xs)) := rfl
theorem e_if {t : TT} {ta tb : TE} : tIf t ta tb σ H Q = t σ H fun c H1 => if c = true then ta σ H1 Q else tb σ H1 Q := rfl
theorem e_andV {ta tb : TE} : tAndV ta tb σ H Q = ta σ H fun x H1 => ∃ c, x = .bl c ∧ if c = true then tb σ H1 Q else Q (.bl false) H1 := rfl
theorem e_orV {ta tb : TE} : tOrV ta tb σ H Q = ta σ H fun x H1 => ∃ c, x = .bl c ∧ if c = true then Q (.bl true) H1 else tb σ H1 Q := rfl
theorem e_notV {ta : TE} : tNotV ta σ H Q = ta σ H fun x H1 => ∃ c, x = .bl c ∧ Q (.bl (!c)) H1 := rfl
theorem e_chain {r r' : R2} {ta tb tc : TE} : tChain r r' ta tb tc σ H Q = ta σ H fun x H1 => tb σ H1 fun y H2 => r x y H2 fun z H3 => ∃ k, z = .bl k ∧ (if k = true then tc σ H3 fun w' H4 => r' y w' H4 Q else Q (.bl false) H3) := rfl
theorem e_test {te : TE} {R : Bool → Hp → Prop} : tTest te σ H R = te σ H fun x H1 => ∃ b, x = .bl b ∧ R b H1 := rfl
theorem e_B {te : TE} {R : Bool → Hp → Prop} : tB te σ H R = te σ H fun x H1 => ∃ b, x = .bl b ∧ R b H1 := rfl
theorem e_and {t u : TT} {R : Bool → Hp → Prop} : tAnd t u σ H R = t σ H fun c H1 => if c = true then u σ H1 R else R false H1 := rfl
theorem e_or {t u : TT} {R : Bool → Hp → Prop} : tOr t u σ H R = t σ H fun c H1 => if c = true then R true H1 else u σ H1 R := rfl
theorem e_not {t : TT} {R : Bool → Hp → Prop} : tNot t σ H R = t σ H fun c H1 => R (!c) H1 := rfl
theorem e_asg {te : TE} {g : TG} : tAsg te g D' σ H = te σ H fun v H1 => g v σ H1 D'.nx := rfl
theorem e_name {i : Nat} {v : V} {R : L2.St → Hp → Prop} : gName i v σ H R = R (σ.set i (some v)) H := rfl
theorem e_seq {t u : TS} : tSeq t u D' σ H = t { D' with nx := u D' } σ H := rfl
theorem e_next : tNext D' σ H = D'.nx σ H := rfl
theorem e_ret {te : TE} : tRet te D' σ H = te σ H D'.rt := rfl
theorem e_ifS {t : TT} {u w : TS} : tIfS t u w D' σ H = t σ H fun c H1 => if c = true then u D' σ H1 else w D' σ H1 := rfl
theorem e_drop {te : TE} : tDrop te D' σ H = te σ H fun _ H1 => D'.nx σ H1 := rfl
theorem e_part {te : TE} {R : Option Int → Hp → Prop} : tPart te σ H R = te σ H fun v H1 => ∃ i, v = .int i ∧ R (some i) H1 := rfl
theorem e_noPart {R : Option Int → Hp → Prop} : tNoPart σ H R = R none H := rfl
theorem e_sl {r : V → Option Int → Option Int → Hp → VK → Prop} {te : TE} {tl th : TO} : tSl r te tl th σ H Q = te σ H fun x H1 => tl σ H1 fun lo H2 => th σ H2 fun hi H3 => r x lo hi H3 Q := rfl
theorem e_I0 {f : Int → Int → V} {i j : Int} : rI0 f (.int i) (.int j) H Q = Q (f i j) H := by
  apply propext
  constructor
  · rintro ⟨a, b, h1, h2, q⟩
    cases h1
    cases h2
    exact q
  · exact fun q => ⟨i, j, rfl, rfl, q⟩
theorem e_I {C : Int → Int → Prop} {f : Int → Int → V} {i j : Int} : rI C f (.int i) (.int j) H Q = (C i j ∧ Q (f i j) H) := by
  apply propext
  constructor
  · rintro ⟨a, b, h1, h2, q⟩
    cases h1
    cases h2
    exact q
  · exact fun q => ⟨i, j, rfl, rfl, q⟩
theorem e_exbl {b : Bool} {R : Bool → Prop} : (∃ c, V.bl b = V.bl c ∧ R c) = R b := by
  apply propext
  constructor
  · rintro ⟨c, h, r⟩
    cases h
    exact r
  · exact fun r => ⟨b, rfl, r⟩
theorem e_exint {b : Int} {R : Int → Prop} : (∃ c, V.int b = V.int c ∧ R c) = R b := by
  apply propext
  constructor
  · rintro ⟨c, h, r⟩
    cases h
    exact r
  · exact fun r => ⟨b, rfl, r⟩
theorem e_exstr {b : Str} {R : Str → Prop} : (∃ c, V.str b = V.str c ∧ R c) = R b := by
  apply propext
  constructor
  · rintro ⟨c, h, r⟩
    cases h
    exact r
  · exact fun r => ⟨b, rfl, r⟩
theorem e_exsome {b : V} {R : V → Prop} : (∃ c, (some (some b) : Option (Option V)) = some (some c) ∧ R c) = R b := by
  apply propext
  constructor
  · rintro ⟨c, h, r⟩
    cases h
    exact r
  · exact fun r => ⟨b, rfl, r⟩
theorem e_pair {i j : Nat} {ta : TA} : tPar i j ta D' σ H = ta σ H fun vs H1 => ∃ v w, vs = [v, w] ∧ D'.nx ((σ.set i (some v)).set j (some w)) H1 := rfl
theorem e_expair {v w : V} {R : V → V → Prop} : (∃ a b, [v, w] = [a, b] ∧ R a b) = R v w := by
  apply propext
  constructor
  · rintro ⟨a, b, h, r⟩
    cases h
    exact r
  · exact fun r => ⟨v, w, rfl, r⟩
end
end U
namespace U
open PySem PySem.Spec PyProof.Rows L2
section
variable {σ : L2.St} {H : Hp} {Q : VK} {K : PySem.W.Frag}
theorem e_m1 {r : V → List V → Hp → VK → Prop} {to te : TE} : tM1 r to te σ H Q = to σ H fun x H1 => (∃ a, x = .str a) ∧ te σ H1 fun y H2 => r x [y] H2 Q := rfl
theorem e_m0 {r : V → List V → Hp → VK → Prop} {to : TE} : tM0 r to σ H Q = to σ H fun x H1 => (∃ a, x = .str a) ∧ r x [] H1 Q := rfl
theorem e_bm {T : String} {r : V → List V → Hp → VK → Prop} {to : TE} {t : TA} : tBM K T r to t σ H Q = to σ H fun x H1 => tyV K T x H1 ∧ t σ H1 fun xs H2 => r x xs H2 Q := rfl
theorem e_bm0 {T : String} {r : V → List V → Hp → VK → Prop} {to : TE} : tBM0 K T r to σ H Q = to σ H fun x H1 => tyV K T x H1 ∧ r x [] H1 Q := rfl
theorem e_fld {to : TE} {f : Str} : tFld K to f σ H Q = to σ H fun x H1 => ∃ a C dx fs v, x = .ref a ∧ H1 a = some (.ins C dx fs) ∧ Cls K C ∧ NoAttr K C f ∧ fs.lookup f = some v ∧ Q v H1 := rfl
end
end U
namespace U
open PySem PySem.Spec PyProof.Rows L2
section
variable {X : Cx} {x : Str} {pos : Pos} {a : Addr}
/-- a built-in class, a class or def of the module, as a value -/
theorem pe_bt (n : String) (hg : Gl X x) (hm : X.mg x = none) (hv : bootBuiltins x = some (.type n)) (hn : x ≠ "__name__" := by decide) (hd : (x == ("__debug__" : Str)) = false := by decide) : PE X (.Name x pos) (tC (.ty n)) :=
  pe_bltn hg hm hv rfl hn hd
theorem pe_gref (hg : Gl X x) (hm : X.mg x = some (.ref a)) (hd : (x == ("__debug__" : Str)) = false := by decide) : PE X (.Name x pos) (tC (.ref a)) := pe_glob (v := .ref a) hg hm rfl hd
end
end U
namespace U
open PySem PySem.Spec PyProof.Rows L2
/-- the signs of a text, each a text -/
def signsV (z : Str) : List V := z.cps.toList.map fun c => V.str ⟨#[c]⟩
def rListU (K : PySem.W.Frag) : List V → Hp → VK → Prop := fun xs H Q => match xs with
  | [.ref p] => ∃ ys, (SqL K H p ys ∨ SqT K H p ys) ∧ ∀ l, H l = none → Q (.ref l) (upd H l (.lst ys))
  | [.str z] => z.length ≤ sizeLine ∧ ∀ l, H l = none → Q (.ref l) (upd H l (.lst (signsV z)))
  | _ => False
section
variable {K : PySem.W.Frag} {x qual : Str} {st : Stmt} {f : Addr} {fd : FuncData} {ps ks : List Str} {n : Nat} {g : List Value → List Value} {gV : List V → List V}
theorem kbn_of (F : L2.Fun K x qual st f fd) (rel : ∀ {zs : List V} {ws : List Value}, Vals zs ws → Vals (gV zs) (g ws))
    (h : ∀ (kV doc pm : Value) (an : Option Addr) (cdv ct : Value) (us ws : List Value), us.length = n → ws.length = ks.length →
      bindArgs (PySem.W.fnOf x qual (L2.defArgs st) (L2.defBody st) (L2.defScope st) .none kV doc pm an cdv ct) ⟨us, ks.zip ws⟩ = pure (ps.zip (us ++ g ws))) :
    KBn K fd ps n ks (fun us ws => us ++ g ws) (fun vs zs => vs ++ gV zs) := by
  obtain ⟨oc, od, kV, doc, pm, an, cdv, ct, osl, rfl, lk, hcd⟩ := F.ex
  exact ⟨fun s us ws _ h1 h2 => .of_eq (h kV doc pm an cdv ct us ws h1 h2), fun r rz => r.append (rel rz)⟩
end
def pk1_0 {α : Type} : List α → List α
  | [a, b] => [b, a]
  | l => l
def pk3_2_1_0 {α : Type} : List α → List α
  | [a, b, c, d] => [d, c, b, a]
  | l => l
def pk2_1_0 {α : Type} : List α → List α
  | [a, b, c] => [c, b, a]
  | l => l
def pk0 {α : Type} : List α → List α := fun l => l
def pk0_1 {α : Type} : List α → List α := fun l => l
theorem rel0 {zs : List V} {ws : List Value} (r : Vals zs ws) : Vals (pk0 zs) (pk0 ws) := r
end U
namespace U
open PySem PySem.Spec PyProof.Rows L2
/-- J walks n items, wherever what stood in H0 (but S) still stands; it: the item, the heap ahead of the turn and behind the draw -/
structure Src (S : Addr → Prop) (J : It) (H0 : Hp) (n : Nat) (it : Nat → V → Hp → Hp → Prop) : Prop where
  stop : ∀ H', Ext S H0 H' → J.stop n H'
  go : ∀ i H', i < n → Ext S H0 H' → J.go i H'
  yld : ∀ i H' x H2, i < n → Ext S H0 H' → J.yld i H' x H2 → it i x H' H2
section
variable {K : PySem.W.Frag} {S : Addr → Prop} {H0 : Hp} {a : Addr} {xs : List V}
theorem src_list (h : H0 a = some (.lst xs)) (n : ¬ S a) : Src S (Itl K a) H0 xs.length (fun i x H' H2 => H2 = H' ∧ xs[i]? = some x) := by
  refine ⟨fun H' e => ⟨xs, SqL.of (e _ _ n h), Nat.le_refl _⟩, fun i H' hi e => ⟨xs, xs[i], SqL.of (e _ _ n h), by simp [hi]⟩, fun i H' x H2 hi e y => ?_⟩
  obtain ⟨q, y⟩ := y
  exact ⟨q, y xs (SqL.of (e _ _ n h))⟩
end
/-- a comprehension that walks J -/
def LcOn (J : It) (g : TG) (tt : TT) (te : TE) (vs : List Nat) (σ : L2.St) (Q : VK) (H1 : Hp) : Prop := ∀ D, H1 D = none → ∃ W : Nat → Nat → Hp → Prop, (∃ m, W 0 m (upd H1 D (.lst []))) ∧ ∀ i m H, W i m H →
  (J.stop i H ∧ Q (.ref D) H) ∨ (J.go i H ∧ ∃ Nx : Hp → Prop, (∀ H', Nx H' → ∃ m', m' < m ∧ W (i + 1) m' H') ∧ ∀ x H', J.yld i H x H' → g x (wipe σ vs) H' fun σ2 H2 => wipe σ2 vs = wipe σ vs ∧ tt σ2 H2 fun b H3 =>
    if b = true then te σ2 H3 fun y H4 => ∃ acc, H4 D = some (.lst acc) ∧ acc.length < sizeLine ∧ Nx (upd H4 D (.lst (acc ++ [y]))) else Nx H3)
def rLcL (K : PySem.W.Frag) (g : TG) (tt : TT) (te : TE) (vs : List Nat) (σ : L2.St) (Q : VK) (x : V) (H1 : Hp) : Prop := ∃ a, x = .ref a ∧ (∃ xs, SqL K H1 a xs) ∧ LcOn (Itl K a) g tt te vs σ Q H1
def rLcT (K : PySem.W.Frag) (g : TG) (tt : TT) (te : TE) (vs : List Nat) (σ : L2.St) (Q : VK) (x : V) (H1 : Hp) : Prop := ∃ a, x = .ref a ∧ (∃ xs, SqT K H1 a xs) ∧ LcOn (Itt K a) g tt te vs σ Q H1
def rLcS (g : TG) (tt : TT) (te : TE) (vs : List Nat) (σ : L2.St) (Q : VK) (x : V) (H1 : Hp) : Prop := ∃ z, x = .str z ∧ LcOn (Its z) g tt te vs σ Q H1
def rLcR (g : TG) (tt : TT) (te : TE) (vs : List Nat) (σ : L2.St) (Q : VK) (x : List V) (H1 : Hp) : Prop := ∃ j : Int, x = [.int j] ∧ -(2 ^ 62) ≤ j ∧ j < 2 ^ 62 ∧ LcOn (Itr 0 j.toNat) g tt te vs σ Q H1
def rLcR2 (g : TG) (tt : TT) (te : TE) (vs : List Nat) (σ : L2.St) (Q : VK) (x : List V) (H1 : Hp) : Prop := ∃ i j : Int, x = [.int i, .int j] ∧ (-(2 ^ 62) ≤ i ∧ i < 2 ^ 62 ∧ -(2 ^ 62) ≤ j ∧ j < 2 ^ 62) ∧ LcOn (Itr i (j - i).toNat) g tt te vs σ Q H1
section
variable {K : PySem.W.Frag} {H H1 : Hp} {a : Addr} {xs : List V} {g : TG} {tt : TT} {te tl : TE} {vs : List Nat} {σ : L2.St} {Q : VK} {ta : TA}
theorem e_lcL : tLc (iList K tl) g tt te vs σ H Q = tl σ H fun x H1 => rLcL K g tt te vs σ Q x H1 := rfl
theorem e_lcT : tLc (iTup K tl) g tt te vs σ H Q = tl σ H fun x H1 => rLcT K g tt te vs σ Q x H1 := rfl
theorem e_lcS : tLc (iStr tl) g tt te vs σ H Q = tl σ H fun x H1 => rLcS g tt te vs σ Q x H1 := rfl
theorem e_lcR : tLc (iRng1 ta) g tt te vs σ H Q = ta σ H fun x H1 => rLcR g tt te vs σ Q x H1 := rfl
theorem e_lcR2 : tLc (iRng2 ta) g tt te vs σ H Q = ta σ H fun x H1 => rLcR2 g tt te vs σ Q x H1 := rfl
end
theorem for_core {J : It} {H1 : Hp} {n : Nat} {it : Nat → V → Hp → Hp → Prop} {S : Addr → Prop} {g : TG} {tb : TS} {σ : L2.St} {D0 : Ends} (src : Src S J H1 n it)
    (I : Nat → L2.St → Hp → Prop) (i0 : I 0 σ H1) (stay : ∀ i σ' H', I i σ' H' → Ext S H1 H')
    (step : ∀ i σ' H', i < n → I i σ' H' → ∀ x H2, it i x H' H2 → g x σ' H2 fun σ2 H3 => tb { D0 with nx := I (i + 1), ct := I (i + 1), bk := D0.nx } σ2 H3)
    (fin : ∀ σ' H', I n σ' H' → D0.nx σ' H') :
    ∃ W : Nat → Nat → L2.St → Hp → Prop, (∃ m, W 0 m σ H1) ∧ ∀ i m σ H, W i m σ H →
      (J.stop i H ∧ D0.nx σ H) ∨ (J.go i H ∧ ∃ N : L2.St → Hp → Prop, (∀ σ' H', N σ' H' → ∃ m', m' < m ∧ W (i + 1) m' σ' H') ∧ ∀ x H', J.yld i H x H' → g x σ H' fun σ2 H2 => tb { D0 with nx := N, ct := N, bk := D0.nx } σ2 H2) := by
  refine ⟨fun i m σ' H' => m = n - i ∧ i ≤ n ∧ I i σ' H', ⟨n, rfl, Nat.zero_le _, i0⟩, ?_⟩
  rintro i m σ' H' ⟨rfl, hi, hI⟩
  by_cases hlt : i < n
  · refine .inr ⟨src.go i H' hlt (stay _ _ _ hI), I (i + 1), fun σ2 H2 q => ⟨n - (i + 1), by omega, rfl, hlt, q⟩, fun x H2 y => ?_⟩
    exact step i σ' H' hlt hI x H2 (src.yld i H' x H2 hlt (stay _ _ _ hI) y)
  · have e : i = n := by omega
    subst e
    exact .inl ⟨src.stop H' (stay _ _ _ hI), fin σ' H' hI⟩
/-- a loop that walks J -/
def ForOn (J : It) (g : TG) (tb : TS) (D0 : Ends) (σ : L2.St) (H1 : Hp) : Prop := ∃ W : Nat → Nat → L2.St → Hp → Prop, (∃ m, W 0 m σ H1) ∧ ∀ i m σ H, W i m σ H →
  (J.stop i H ∧ D0.nx σ H) ∨ (J.go i H ∧ ∃ N : L2.St → Hp → Prop, (∀ σ' H', N σ' H' → ∃ m', m' < m ∧ W (i + 1) m' σ' H') ∧ ∀ x H', J.yld i H x H' → g x σ H' fun σ2 H2 => tb { D0 with nx := N, ct := N, bk := D0.nx } σ2 H2)
def rForL (K : PySem.W.Frag) (g : TG) (tb : TS) (D0 : Ends) (σ : L2.St) (x : V) (H1 : Hp) : Prop := ∃ a, x = .ref a ∧ (∃ xs, SqL K H1 a xs) ∧ ForOn (Itl K a) g tb D0 σ H1
def rForT (K : PySem.W.Frag) (g : TG) (tb : TS) (D0 : Ends) (σ : L2.St) (x : V) (H1 : Hp) : Prop := ∃ a, x = .ref a ∧ (∃ xs, SqT K H1 a xs) ∧ ForOn (Itt K a) g tb D0 σ H1
def rForR (g : TG) (tb : TS) (D0 : Ends) (σ : L2.St) (x : List V) (H1 : Hp) : Prop := ∃ j : Int, x = [.int j] ∧ -(2 ^ 62) ≤ j ∧ j < 2 ^ 62 ∧ ForOn (Itr 0 j.toNat) g tb D0 σ H1
def rForR2 (g : TG) (tb : TS) (D0 : Ends) (σ : L2.St) (x : List V) (H1 : Hp) : Prop := ∃ i j : Int, x = [.int i, .int j] ∧ (-(2 ^ 62) ≤ i ∧ i < 2 ^ 62 ∧ -(2 ^ 62) ≤ j ∧ j < 2 ^ 62) ∧ ForOn (Itr i (j - i).toNat) g tb D0 σ H1
section
variable {K : PySem.W.Frag} {S : Addr → Prop} {H H1 : Hp} {a : Addr} {xs : List V} {g : TG} {tb : TS} {tl : TE} {σ : L2.St} {D0 : Ends} {ta : TA}
theorem e_forL : tFor (iList K tl) g tb D0 σ H = tl σ H fun x H1 => rForL K g tb D0 σ x H1 := rfl
theorem e_forT : tFor (iTup K tl) g tb D0 σ H = tl σ H fun x H1 => rForT K g tb D0 σ x H1 := rfl
theorem e_forR : tFor (iRng1 ta) g tb D0 σ H = ta σ H fun x H1 => rForR g tb D0 σ x H1 := rfl
theorem e_forR2 : tFor (iRng2 ta) g tb D0 σ H = ta σ H fun x H1 => rForR2 g tb D0 σ x H1 := rfl
theorem forL (h : H1 a = some (.lst xs)) (hS : ¬ S a) (I : Nat → L2.St → Hp → Prop) (i0 : I 0 σ H1) (stay : ∀ i σ' H', I i σ' H' → Ext S H1 H')
    (step : ∀ i x σ' H', xs[i]? = some x → I i σ' H' → g x σ' H' fun σ2 H3 => tb { D0 with nx := I (i + 1), ct := I (i + 1), bk := D0.nx } σ2 H3) (fin : ∀ σ' H', I xs.length σ' H' → D0.nx σ' H') : rForL K g tb D0 σ (.ref a) H1 :=
  ⟨a, rfl, ⟨xs, SqL.of h⟩, for_core (src_list h hS) I i0 stay (fun i σ' H' _ hI x H2 y => by obtain ⟨rfl, y⟩ := y; exact step i x σ' _ y hI) fin⟩
end
end U
namespace U
open PySem PySem.Spec PyProof.Rows L2
/-- the text of one sign; of codes -/
def one (c : Nat) : Str := ⟨#[c]⟩
def cd (z : Str) : List Nat := z.cps.toList
theorem cd_len (z : Str) : (cd z).length = z.length := by
  unfold cd
  rw [Array.length_toList]
  rfl
theorem cd_size (z : Str) : z.cps.size = (cd z).length := by
  unfold cd
  rw [Array.length_toList]
def sgn (c : Nat) : D := .str (one c)
def SIGNS : Str := PySem.Str.ofString ".0123456789abcdefghijklmnopqrstuvwxyz~"
def signs : List Nat := cd SIGNS
def isSign (c : Nat) : Bool := decide (c ∈ signs)
/-- a text of at most n signs -/
def okText (n : Nat) (z : Str) : Bool := decide (z.length ≤ n) && (cd z).all isSign
structure Sh where
  limit : Nat
  head : Nat
  tail : Nat
  mark : Str
def Sh.ok (s : Sh) : Prop := s.limit ≤ 40 ∧ s.head ≤ 40 ∧ s.tail ≤ 40 ∧ okText 3 s.mark = true
theorem dt_signs {S : Addr → Prop} {H : Hp} : ∀ l : List Nat, DtA S H (l.map fun c => V.str (one c)) (l.map sgn)
  | [] => .nil
  | c :: l => .cons (.str _) (dt_signs l)
theorem dt_signsV {S : Addr → Prop} {H : Hp} (z : Str) : DtA S H (signsV z) ((cd z).map sgn) := dt_signs (cd z)
end U
namespace U
open PySem PySem.Spec PyProof.Rows L2 StX
section
variable {X : Cx} {K : PySem.W.Frag} {e o a b : Expr} {te to : TE} {tg : Expr} {ta : TA}
theorem ix_K (h : X.K = K) : IxR X (rIxU K) := by subst h; exact ix_U
theorem sl_K (h : X.K = K) : SlR X (rSlU K) := by subst h; exact sl_U
theorem call_lenK (h : X.K = K) : CallR X (.builtin "len") (rLenU K) := by subst h; exact call_lenU
theorem cr_allK (h : X.K = K) (hc : X.calm = true) : CallR X (.builtin "all") (rAll K) := by subst h; exact cr_all hc
theorem pi_listK (h : X.K = K) (he : PE X e te) : PI X tg e (iList K te) := by subst h; exact pi_list he
/-- '..'.join(xs) -/
def rJoin (K : PySem.W.Frag) : V → List V → Hp → VK → Prop := fun x xs H Q => ∃ a p, ∃ ys : List Str, x = .str a ∧ xs = [.ref p] ∧ (SqL K H p (ys.map V.str) ∨ SqT K H p (ys.map V.str)) ∧ (ys.map (·.length)).sum + ys.length * a.length ≤ 16777216 ∧ Q (.str (Txt.join a ys)) H
theorem e_then {σ : L2.St} {H : Hp} {Q : VK} {k : V → Hp → VK → Prop} : tThen te k σ H Q = te σ H fun x H1 => k x H1 Q := rfl
theorem e_star {σ : L2.St} {H : Hp} {Q : List V → Hp → Prop} {t : TA} : tStar K te t σ H Q = te σ H fun x H1 => ∃ p xs, x = V.ref p ∧ (SqT K H1 p xs ∨ SqL K H1 p xs) ∧ t σ H1 fun ys H2 => Q (xs ++ ys) H2 := rfl
end
end U
namespace U
open PySem PySem.Spec PyProof.Rows L2
theorem e_yes {σ : L2.St} {H : Hp} {R : Bool → Hp → Prop} : tYes σ H R = R true H := rfl
end U
namespace U
theorem take_snoc {α : Type} {l : List α} {i : Nat} {c : α} (h : l[i]? = some c) : l.take (i + 1) = l.take i ++ [c] := by
  rw [List.take_add_one, h]
  rfl
theorem cd_get {z : PySem.Str} {i c : Nat} (h : z.cps[i]? = some c) : (cd z)[i]? = some c := by
  unfold cd
  rw [Array.getElem?_toList]
  exact h
end U
namespace U
open PySem PySem.Spec PyProof.Rows L2
theorem e_sfld {σ : L2.St} {H : Hp} {D0 : Ends} {K : PySem.W.Frag} {ta tv : TE} {f : Str} : sFld K ta tv f D0 σ H = tv σ H fun y H1 => ta σ H1 fun x H2 => ∃ a C dx fs, x = .ref a ∧ H2 a = some (.ins C dx fs) ∧ Cls K C ∧ NoAttr K C f ∧ fs.length < 1000 ∧ D0.nx σ (upd H2 a (.ins C dx (putF f y fs))) := rfl
end U
namespace U
open PySem PySem.Spec PyProof.Rows L2
section
variable {σ : L2.St} {H : Hp} {R : L2.St → Hp → Prop} {K : PySem.W.Frag}
theorem e_gcons {t : TG} {u : TGs} {x : V} {r : List V} : gCons t u (x :: r) σ H R = t x σ H fun σ1 H1 => u r σ1 H1 R := by
  apply propext
  constructor
  · rintro ⟨v, l, h, q⟩
    cases h
    exact q
  · exact fun q => ⟨x, r, rfl, q⟩
theorem e_gnil : gNil [] σ H R = R σ H := by
  apply propext
  exact ⟨fun q => q.2, fun q => ⟨rfl, q⟩⟩
theorem e_gtup {n : Nat} {t : TGs} {v : V} : gTup K n t v σ H R = ∃ a xs, v = .ref a ∧ SqT K H a xs ∧ xs.length = n ∧ t xs σ H R := rfl
theorem e_gsub {to ti : TE} {t : TSet} {v : V} : gSub to ti t v σ H R = to σ H fun o H1 => ti σ H1 fun i H2 => t o i v H2 fun H3 => R σ H3 := rfl
theorem pg_tupK {X : Cx} (h : X.K = K) {es : List Expr} {k : Nat} {pos : Pos} {t : TGs} {n : Nat} (hc : X.calm = true) (ht : PGs X es t) (hn : (assignEach es X.env).length = n := by rfl) (hst : (assignEach es X.env).findIdx? (·.1) = none := by rfl) : PG X (.Tuple es k pos) (gTup K n t) := by
  subst h
  exact pg_tup hc ht hn hst
end
end U
namespace U
open PySem PySem.Spec PyProof.Rows L2
section
variable {σ : L2.St} {H : Hp} {Q : VK} {K : PySem.W.Frag}
theorem e_make {C : Addr} {sp : Sp} {dvs : List V} {E : XK} {t : TA} : tMake C sp dvs E t σ H Q = t σ H fun vs H1 => ∀ x dx, H1 x = none → H1 dx = none → dx ≠ x → sp (.ref x :: (vs ++ dvs)) (upd (upd H1 dx (.own x)) x (.ins C dx [])) (fun v H2 => v = .non ∧ Q (.ref x) H2) E := rfl
theorem e_makeK {C : Addr} {n m : Nat} {sp : Sp} {gV : List V → List V → List V} {E : XK} {t tk : TA} : tMakeK C n m sp gV E t tk σ H Q = t σ H fun vs H1 => tk σ H1 fun zs H2 => vs.length = n ∧ zs.length = m ∧ ∀ x dx, H2 x = none → H2 dx = none → dx ≠ x →
  sp (gV (.ref x :: vs) zs) (upd (upd H2 dx (.own x)) x (.ins C dx [])) (fun v H3 => v = .non ∧ Q (.ref x) H3) E := rfl
theorem e_callN {n m : Nat} {sp : Sp} {gV : List V → List V → List V} {E : XK} {t tk : TA} : tCallN n m sp gV E t tk σ H Q = t σ H fun vs H1 => tk σ H1 fun zs H2 => vs.length = n ∧ zs.length = m ∧ sp (gV vs zs) H2 Q E := rfl
theorem e_meth {C : Addr} {m : Str} {sp : Sp} {dvs : List V} {E : XK} {ta : TE} {t : TA} : tMeth C m sp dvs E ta t σ H Q = ta σ H fun x H1 => ∃ a dx fs, x = .ref a ∧ H1 a = some (.ins C dx fs) ∧ fs.lookup m = none ∧ t σ H1 fun vs H2 => sp (x :: (vs ++ dvs)) H2 Q E := rfl
theorem e_kTup {p : Addr} : kTup K (.ref p) H Q = ((∃ xs, SqL K H p xs ∧ ∀ q, H q = none → Q (.ref q) (upd H q (.tup xs))) ∨ (∃ xs, SqT K H p xs ∧ Q (.ref p) H)) := by
  apply propext
  unfold kTup
  constructor
  · rintro (⟨q, xs, h, r⟩ | ⟨q, xs, h, r⟩)
    · cases h
      exact .inl ⟨xs, r⟩
    · cases h
      exact .inr ⟨xs, r⟩
  · rintro (⟨xs, r⟩ | ⟨xs, r⟩)
    · exact .inl ⟨p, xs, rfl, r⟩
    · exact .inr ⟨p, xs, rfl, r⟩
end
end U
namespace U
open PySem PySem.Spec PyProof.Rows L2
/-- the tuple at a as it stands at each turn, place and item in a new pair -/
def IteT (K : PySem.W.Frag) (a : Addr) : It where
  go i H := ∃ (xs : List V) (x : V), SqT K H a xs ∧ xs[i]? = some x
  yld i H v H' := ∃ T x, v = .ref T ∧ H T = none ∧ H' = upd H T (.tup [.int (i : Nat), x]) ∧ ∀ xs, SqT K H a xs → xs[i]? = some x
  stop i H := ∃ xs : List V, SqT K H a xs ∧ xs.length = i
def iEnumT (K : PySem.W.Frag) (ta : TA) : TI := fun σ H R => ta σ H fun vs H1 => ∃ a xs, vs = [.ref a] ∧ SqT K H1 a xs ∧ R (IteT K a) H1
def rForE (K : PySem.W.Frag) (g : TG) (tb : TS) (D0 : Ends) (σ : L2.St) (vs : List V) (H1 : Hp) : Prop := ∃ a xs, vs = [.ref a] ∧ SqT K H1 a xs ∧ ForOn (IteT K a) g tb D0 σ H1
section
variable {K : PySem.W.Frag} {S : Addr → Prop} {H H1 : Hp} {a : Addr} {xs : List V} {g : TG} {tb : TS} {σ : L2.St} {D0 : Ends} {ta : TA}
theorem e_forE : tFor (iEnumT K ta) g tb D0 σ H = ta σ H fun x H1 => rForE K g tb D0 σ x H1 := rfl
end
end U
namespace U
open PySem PySem.Spec PyProof.Rows L2
theorem cutV_to (xs : List V) (n : Nat) : cutV xs none (some (n : Int)) = xs.take n := by
  unfold cutV
  rw [HT.sIx_none, HT.sIx_nat, List.drop_zero, Nat.sub_zero]
  by_cases h : n ≤ xs.length
  · rw [Nat.min_eq_left h]
  · rw [Nat.min_eq_right (by omega), List.take_of_length_le (by omega), List.take_of_length_le (by omega)]
end U
namespace U
end U
namespace U
open PySem PySem.Spec PyProof.Rows L2
end U
namespace U
open PySem PySem.Spec PyProof.Rows L2
theorem e_lstRg {ta : TE} {σ : L2.St} {H : Hp} {Q : VK} : tLstRg (tRg1 ta) σ H Q = ta σ H fun x H1 => ∃ n, x = .int n ∧ RgOk 0 n ∧ ∀ q, H1 q = none → Q (.ref q) (upd H1 q (.lst (rgV 0 n))) := rfl
def lenP (s : Sh) (n : Nat) : Nat := if n ≤ s.limit then n else min s.head n + s.mark.length + min s.tail n
def lenR (row : List Sh) (n : Nat) : Nat := row.foldl (fun m s => lenP s m) n
/-- the places 0 .. n - 1 -/
def pl (i : Nat) : D := .int (i : Nat)
end U
namespace U
open PySem PySem.Spec PyProof.Rows L2
structure PyOk (W k : Nat) (p : PyData) : Prop where
  lay : p.canLay0 = true
  itx : PyData.intsShort 13 p = true
  sh : PyData.showable p = true
  nd : PyData.hasDict p = false
  dep : PyData.depth p ≤ k
  wt : PyData.weight p ≤ W
structure PysOk (W k : Nat) (ps : List PyData) : Prop where
  lay : PyData.canLayAll0 ps = true
  itx : PyData.intsShortAll 13 ps = true
  sh : PyData.showableAll ps = true
  nd : PyData.hasDictAll ps = false
  dep : PyData.depthAll ps ≤ k
  wt : PyData.weightAll ps ≤ W
theorem PysOk.nil (W k : Nat) : PysOk W k [] := ⟨rfl, rfl, rfl, rfl, Nat.zero_le _, Nat.zero_le _⟩
theorem PysOk.cons {W W' k : Nat} {p : PyData} {ps : List PyData} (a : PyOk W k p) (b : PysOk W' k ps) : PysOk (W + 1 + W') k (p :: ps) := by
  obtain ⟨a1, a2, a3, a4, a5, a6⟩ := a
  obtain ⟨b1, b2, b3, b4, b5, b6⟩ := b
  refine ⟨?_, ?_, ?_, ?_, ?_, ?_⟩
  · rw [PyData.canLayAll0, a1, b1]; rfl
  · rw [PyData.intsShortAll, a2, b2]; rfl
  · rw [PyData.showableAll, a3, b3]; rfl
  · rw [PyData.hasDictAll, a4, b4]; rfl
  · rw [PyData.depthAll]; omega
  · rw [PyData.weightAll]; omega
theorem PyOk.mono {W W' k k' : Nat} {p : PyData} (a : PyOk W k p) (h : W ≤ W') (h2 : k ≤ k') : PyOk W' k' p := ⟨a.lay, a.itx, a.sh, a.nd, Nat.le_trans a.dep h2, Nat.le_trans a.wt h⟩
theorem PysOk.mono {W W' k k' : Nat} {p : List PyData} (a : PysOk W k p) (h : W ≤ W') (h2 : k ≤ k') : PysOk W' k' p := ⟨a.lay, a.itx, a.sh, a.nd, Nat.le_trans a.dep h2, Nat.le_trans a.wt h⟩
theorem PysOk.list {W k : Nat} {ps : List PyData} (a : PysOk W k ps) : PyOk W (k + 1) (.list ps) :=
  ⟨by rw [PyData.canLay0]; exact a.lay, by rw [PyData.intsShort]; exact a.itx, by rw [PyData.showable]; exact a.sh, by rw [PyData.hasDict]; exact a.nd, by rw [PyData.depth]; have := a.dep; omega, by rw [PyData.weight]; exact a.wt⟩
theorem PysOk.tuple {W k : Nat} {ps : List PyData} (a : PysOk W k ps) : PyOk W (k + 1) (.tuple ps) :=
  ⟨by rw [PyData.canLay0]; exact a.lay, by rw [PyData.intsShort]; exact a.itx, by rw [PyData.showable]; exact a.sh, by rw [PyData.hasDict]; exact a.nd, by rw [PyData.depth]; have := a.dep; omega, by rw [PyData.weight]; exact a.wt⟩
theorem PyOk.int {i : Int} (h : i.natAbs < 10 ^ 12) : PyOk 40 0 (.int i) := by
  refine ⟨rfl, ?_, ?_, rfl, by rw [PyData.depth]; exact Nat.le_refl _, ?_⟩
  · rw [PyData.intsShort]
    exact decide_eq_true (PyData.shown_int_le h)
  · rw [PyData.showable]
    refine decide_eq_true ?_
    have : i.natAbs.log2 ≤ 40 := by
      by_cases z : i.natAbs = 0
      · rw [z]; decide
      · exact Nat.le_of_lt_succ ((Nat.log2_lt z).mpr (Nat.lt_of_lt_of_le h (by decide)))
    omega
  · rw [PyData.weight]
    split
    · omega
    · have : i.natAbs.log2 < 40 := by
        by_cases z : i.natAbs = 0
        · rw [z]; decide
        · exact (Nat.log2_lt z).mpr (Nat.lt_of_lt_of_le h (by decide))
      omega
theorem PyOk.bl (b : Bool) : PyOk 0 0 (.bool b) := ⟨rfl, rfl, rfl, rfl, by rw [PyData.depth]; exact Nat.le_refl _, by rw [PyData.weight]; exact Nat.le_refl _⟩
theorem PyOk.non : PyOk 0 0 .none := ⟨rfl, rfl, rfl, rfl, by rw [PyData.depth]; exact Nat.le_refl _, by rw [PyData.weight]; exact Nat.le_refl _⟩
theorem PyOk.str {z : Str} {n : Nat} (h : PyData.strOk z = true) (hn : z.length ≤ n) : PyOk n 0 (.str z) :=
  ⟨by rw [PyData.canLay0]; exact h, rfl, rfl, rfl, by rw [PyData.depth]; exact Nat.le_refl _, by rw [PyData.weight]; exact hn⟩
theorem PyOk.shaped {W k : Nat} {p : PyData} (h : PyOk W k p) (hk : k ≤ 64) : SeqAt.shaped p = true := by
  unfold SeqAt.shaped
  rw [Bool.and_eq_true]
  exact ⟨h.lay, decide_eq_true (Nat.le_trans h.dep hk)⟩
/-- a datum that can be compared and shown -/
def okP (W k : Nat) (d : D) : Prop := ∃ p, D.py d = some p ∧ PyOk W k p
def okPs (W k : Nat) (ds : List D) : Prop := ∃ ps, D.pys ds = some ps ∧ PysOk W k ps
theorem okPs.nil (W k : Nat) : okPs W k [] := ⟨[], by rw [D.pys], .nil _ _⟩
theorem okPs.cons {W W' k : Nat} {d : D} {ds : List D} : okP W k d → okPs W' k ds → okPs (W + 1 + W') k (d :: ds) := fun ⟨p, e, a⟩ ⟨ps, e2, b⟩ => ⟨p :: ps, by rw [D.pys, e, e2], .cons a b⟩
theorem okPs.all {W k : Nat} : ∀ {ds : List D}, (∀ d ∈ ds, okP W k d) → okPs (ds.length * (W + 1)) k ds
  | [], _ => okPs.nil _ _
  | d :: ds, h => by
    obtain ⟨ps, e, a⟩ := okPs.cons (h d List.mem_cons_self) (okPs.all fun x hx => h x (List.mem_cons_of_mem _ hx))
    refine ⟨ps, e, a.mono ?_ (Nat.le_refl _)⟩
    rw [List.length_cons, Nat.succ_mul]
    omega
theorem okPs.list {W k : Nat} {ds : List D} : okPs W k ds → okP W (k + 1) (.lst ds) := fun ⟨ps, e, a⟩ => ⟨.list ps, by rw [D.py, e]; rfl, a.list⟩
theorem okPs.tuple {W k : Nat} {ds : List D} : okPs W k ds → okP W (k + 1) (.tup ds) := fun ⟨ps, e, a⟩ => ⟨.tuple ps, by rw [D.py, e]; rfl, a.tuple⟩
theorem okP.mono {W W' k k' : Nat} {d : D} : okP W k d → W ≤ W' → k ≤ k' → okP W' k' d := fun ⟨p, e, a⟩ h h2 => ⟨p, e, a.mono h h2⟩
theorem okP.int {i : Int} (h : i.natAbs < 10 ^ 12) : okP 40 0 (.int i) := ⟨_, by rw [D.py], .int h⟩
end U
namespace U
open PySem PySem.Spec PyProof.Rows L2
section
variable {X : Cx}
def rMulS : R2 := fun x y H Q => ∃ z n, x = .str z ∧ y = .int n ∧ z.length ≤ 2000 ∧ 0 ≤ n ∧ n ≤ 8000 ∧ Q (.str (Txt.mul z n)) H
end
theorem empty_append (a : Str) : Str.empty ++ a = a := by
  show (⟨#[] ++ a.cps⟩ : Str) = a
  rw [Array.empty_append]
inductive Ru where
  | count | free | tight
def Ru.str : Ru → Str
  | .count => "count"
  | .free => "free"
  | .tight => "tight"
end U
namespace U
open PySem PySem.Spec PyProof.Rows L2
end U
namespace U
open PySem PySem.Spec PyProof.Rows L2
theorem dtA_strs {S : Addr → Prop} {H : Hp} : ∀ l : List Str, DtA S H (l.map V.str) (l.map D.str)
  | [] => .nil
  | z :: l => .cons (.str z) (dtA_strs l)
end U
namespace U
open PySem PySem.Spec PyProof.Rows L2 HT
section
variable {X : Cx}
def tRevT (K : PySem.W.Frag) (te : TE) : TE := fun σ H Q => te σ H fun x H1 => ∃ a xs, x = .ref a ∧ SqT K H1 a xs ∧ ∀ p, H1 p = none → Q (.ref p) (upd H1 p (.tup xs.reverse))
end
end U
namespace U
open PySem PySem.Spec PyProof.Rows L2
end U
namespace V
open PySem PySem.Spec PyProof.Rows L2 U StX
/-- what may change -/
inductive MO where
  | lst (ds : List D)
  | dic (kvs : List (Key × D))
  | dct (kvs : List (List Key × D))
  | ins (C : Addr) (fs : List (Str × D))
  | tab (q : Str)
  | sys
  | xob (C : Addr) (fs : List (Str × D))
abbrev Mem := Addr → Option MO
def mset (M : Mem) (a : Addr) (o : MO) : Mem := fun b => if b = a then some o else M b
def mdel (M : Mem) (a : Addr) : Mem := fun b => if b = a then none else M b
theorem mset_same {M : Mem} {a : Addr} {o : MO} : mset M a o a = some o := if_pos rfl
theorem mset_ne {M : Mem} {a b : Addr} {o : MO} (h : b ≠ a) : mset M a o b = M b := if_neg h
theorem mset_set {M : Mem} {a : Addr} {o u : MO} : mset (mset M a o) a u = mset M a u := by
  funext b
  unfold mset
  split <;> rfl
/-- the fields of an exception whose dict is d -/
def XF (S : Addr → Prop) (H : Hp) (d : Option Addr) (fs : List (Str × D)) : Prop :=
  (d = none ∧ fs = []) ∨ ∃ dd gs, d = some dd ∧ ¬ S dd ∧ H dd = some (.xd gs) ∧ gs.map (·.1) = fs.map (·.1) ∧ DtA S H (gs.map (·.2)) (fs.map (·.2))
def Held (S : Addr → Prop) (H : Hp) (a : Addr) : MO → Prop
  | .lst ds => ∃ vs, H a = some (.lst vs) ∧ DtA S H vs ds
  | .dic kvs => ∃ ws, H a = some (.dK ws) ∧ ws.map (·.1) = kvs.map (·.1) ∧ DtA S H (ws.map (·.2)) (kvs.map (·.2))
  | .dct kvs => ∃ ws, H a = some (.dT ws) ∧ ws.map (·.1) = kvs.map (·.1) ∧ DtA S H (ws.map (·.2)) (kvs.map (·.2))
  | .ins C fs => ∃ dx gs, H a = some (.ins C dx gs) ∧ gs.map (·.1) = fs.map (·.1) ∧ DtA S H (gs.map (·.2)) (fs.map (·.2))
  | .tab q => ∃ ps : Array Value, H a = some (.tbl ps) ∧ TriplesOk ps.toList ∧ ∀ (pos : Pos) (cv : Value), codeAmong pos ps.toList = some cv → ∃ c, cv = .ref c ∧ H c = some (LamX.CodeO c q) ∧ ¬ S c
  | .sys => ∃ (o : Obj) (es : Array DictEntry) (ep : Nat), H a = some (.frz o (.ext fun _ => True)) ∧ o.data = .dict es ep
  | .xob C fs => ∃ (o : Obj) (us : Array Value), H a = some (.frz o (.ext fun _ => True)) ∧ o.cls = .ref C ∧ o.data = .fields us ∧ XF S H o.dict fs
structure Wo (S : Addr → Prop) (M : Mem) (H : Hp) : Prop where
  tr : ∀ a, S a → H a ≠ none
  mem : ∀ a mo, M a = some mo → S a ∧ Held S H a mo
structure Step (S : Addr → Prop) (M : Mem) (H : Hp) (S' : Addr → Prop) (M' : Mem) (H' : Hp) : Prop where
  keep : ∀ b o, M b = none → H b = some o → H' b = some o ∧ M' b = none ∧ (S' b ↔ S b)
/-- slots: what is known of them -/
abbrev Dl := List (Option D)
structure En (S : Addr → Prop) (H : Hp) (σ : L2.St) (δ : Dl) : Prop where
  len : σ.length = δ.length
  at_ : ∀ (i : Nat) (d : D), δ[i]? = some (some d) → ∃ v, σ[i]? = some (some v) ∧ Dt S H v d
section
variable {S S' S1 S2 : Addr → Prop} {M M' M1 M2 : Mem} {H H' H1 H2 : Hp} {σ : L2.St} {δ : Dl}
theorem Step.refl : Step S M H S M H := ⟨fun _ _ h e => ⟨e, h, Iff.rfl⟩⟩
theorem Step.trans (a : Step S M H S1 M1 H1) (b : Step S1 M1 H1 S2 M2 H2) : Step S M H S2 M2 H2 := ⟨fun c o h e => by
  obtain ⟨e1, h1, s1⟩ := a.keep c o h e
  obtain ⟨e2, h2, s2⟩ := b.keep c o h1 e1
  exact ⟨e2, h2, s2.trans s1⟩⟩
theorem Wo.mn (w : Wo S M H) {a : Addr} (h : ¬ S a) : M a = none := by
  cases e : M a with
  | none => rfl
  | some mo => exact (h (w.mem a mo e).1).elim
theorem Wo.ns (w : Wo S M H) {a : Addr} (h : H a = none) : ¬ S a := fun z => w.tr a z h
theorem Wo.fresh (w : Wo S M H) {a : Addr} (h : H a = none) : M a = none := w.mn (w.ns h)
mutual
theorem dt_step (w : Wo S M H) (t : Step S M H S' M' H') : ∀ (d : D) {v : V}, Dt S H v d → Dt S' H' v d
  | .non, _, h => by cases h; exact .non
  | .bl b, _, h => by cases h; exact .bl b
  | .int i, _, h => by cases h; exact .int i
  | .str x, _, h => by cases h; exact .str x
  | .ptr x, _, h => by cases h; exact .ptr x
  | .ty x, _, h => by cases h; exact .ty x
  | .lst ds, _, h => by
    cases h with
    | lst n ha hs =>
      obtain ⟨e1, h1, s1⟩ := t.keep _ _ (w.mn n) ha
      exact .lst (fun z => n (s1.mp z)) e1 (dtA_step w t ds hs)
  | .tup ds, _, h => by
    cases h with
    | tup n ha hs =>
      obtain ⟨e1, h1, s1⟩ := t.keep _ _ (w.mn n) ha
      exact .tup (fun z => n (s1.mp z)) e1 (dtA_step w t ds hs)
  | .ins C ns ds, _, h => by
    cases h with
    | ins n ha hn hs =>
      obtain ⟨e1, h1, s1⟩ := t.keep _ _ (w.mn n) ha
      exact .ins (fun z => n (s1.mp z)) e1 hn (dtA_step w t ds hs)
  | .opq a o, _, h => by
    cases h with
    | opq n ha =>
      obtain ⟨e1, h1, s1⟩ := t.keep _ _ (w.mn n) ha
      exact .opq (fun z => n (s1.mp z)) e1
  | .ftp ds, _, h => by
    cases h with
    | ftp n ha hd hs =>
      obtain ⟨e1, h1, s1⟩ := t.keep _ _ (w.mn n) ha
      exact .ftp (fun z => n (s1.mp z)) e1 hd (dtA_step w t ds hs)
theorem dtA_step (w : Wo S M H) (t : Step S M H S' M' H') : ∀ (ds : List D) {vs : List V}, DtA S H vs ds → DtA S' H' vs ds
  | [], _, h => by cases h; exact .nil
  | d :: ds, _, h => by
    cases h with
    | cons h1 h2 => exact .cons (dt_step w t d h1) (dtA_step w t ds h2)
end
theorem En.step (e : En S H σ δ) (w : Wo S M H) (t : Step S M H S' M' H') : En S' H' σ δ :=
  ⟨e.len, fun i d h => by
    obtain ⟨v, h1, h2⟩ := e.at_ i d h
    exact ⟨v, h1, dt_step w t d h2⟩⟩
theorem En.set (e : En S H σ δ) {i : Nat} {v : V} {d : D} (h : Dt S H v d) : En S H (σ.set i (some v)) (δ.set i (some d)) := by
  refine ⟨by rw [List.length_set, List.length_set]; exact e.len, fun j y hj => ?_⟩
  by_cases c : i = j
  · subst c
    by_cases l : i < δ.length
    · rw [List.getElem?_set_self l] at hj
      cases hj
      exact ⟨v, List.getElem?_set_self (by rw [e.len]; exact l), h⟩
    · rw [List.getElem?_eq_none (by rw [List.length_set]; omega)] at hj
      cases hj
  · rw [List.getElem?_set_ne c] at hj
    rw [List.getElem?_set_ne c]
    exact e.at_ j y hj
theorem En.unset (e : En S H σ δ) {i : Nat} {o : Option V} : En S H (σ.set i o) (δ.set i none) := by
  refine ⟨by rw [List.length_set, List.length_set]; exact e.len, fun j y hj => ?_⟩
  by_cases c : i = j
  · subst c
    by_cases l : i < δ.length
    · rw [List.getElem?_set_self l] at hj
      cases hj
    · rw [List.getElem?_eq_none (by rw [List.length_set]; omega)] at hj
      cases hj
  · rw [List.getElem?_set_ne c] at hj
    rw [List.getElem?_set_ne c]
    exact e.at_ j y hj
def wipeD (δ : Dl) : List Nat → Dl
  | [] => δ
  | v :: vs => (wipeD δ vs).set v none
theorem En.wipe (e : En S H σ δ) : ∀ vs : List Nat, En S H (L2.wipe σ vs) (wipeD δ vs)
  | [] => e
  | v :: vs => (En.wipe e vs).unset
/-- an object that no store speaks of -/
theorem Wo.new (w : Wo S M H) {p : Addr} {o : HO} (h : H p = none) : Wo S M (upd H p o) := by
  refine ⟨fun a s => ?_, fun a mo e => ?_⟩
  · rw [upd_ne (fun z => w.tr a s (by rw [z]; exact h))]
    exact w.tr a s
  · obtain ⟨s, k⟩ := w.mem a mo e
    have na : a ≠ p := fun z => w.tr a s (by rw [z]; exact h)
    refine ⟨s, ?_⟩
    cases mo with
    | lst ds =>
      obtain ⟨vs, h1, h2⟩ := k
      exact ⟨vs, (upd_ne na).trans h1, h2.sm (Same.new h)⟩
    | dic ds =>
      obtain ⟨vs, h1, h3, h2⟩ := k
      exact ⟨vs, (upd_ne na).trans h1, h3, h2.sm (Same.new h)⟩
    | dct ds =>
      obtain ⟨vs, h1, h3, h2⟩ := k
      exact ⟨vs, (upd_ne na).trans h1, h3, h2.sm (Same.new h)⟩
    | ins C ds =>
      obtain ⟨dx, vs, h1, h3, h2⟩ := k
      exact ⟨dx, vs, (upd_ne na).trans h1, h3, h2.sm (Same.new h)⟩
    | tab q =>
      obtain ⟨ps, h1, h2, h3⟩ := k
      refine ⟨ps, (upd_ne na).trans h1, h2, fun pos cv hc => ?_⟩
      obtain ⟨c, e1, e2, e3⟩ := h3 pos cv hc
      exact ⟨c, e1, Same.new h _ _ e2, e3⟩
    | sys =>
      obtain ⟨o, es, ep, h1, h2⟩ := k
      exact ⟨o, es, ep, (upd_ne na).trans h1, h2⟩
    | xob C fs =>
      obtain ⟨o, us, h1, h2, h3, h4⟩ := k
      exact ⟨o, us, (upd_ne na).trans h1, h2, h3, h4.imp id fun ⟨dd, gs, e1, e2, e3, e4, e5⟩ => ⟨dd, gs, e1, e2, Same.new h _ _ e3, e4, e5.sm (Same.new h)⟩⟩
theorem Step.new {p : Addr} {o : HO} (h : H p = none) : Step S M H S M (upd H p o) := ⟨fun b u n e => ⟨Same.new h b u e, n, Iff.rfl⟩⟩
/-- the heap grows, the store stays -/
theorem Wo.same (w : Wo S M H) (e : Same H H') : Wo S M H' := by
  refine ⟨fun a s => ?_, fun a mo k => ?_⟩
  · cases h : H a with
    | none => exact (w.tr a s h).elim
    | some o =>
      rw [e _ _ h]
      exact fun z => nomatch z
  · obtain ⟨s, k⟩ := w.mem a mo k
    refine ⟨s, ?_⟩
    cases mo with
    | lst ds =>
      obtain ⟨vs, h1, h2⟩ := k
      exact ⟨vs, e _ _ h1, h2.sm e⟩
    | dic ds =>
      obtain ⟨vs, h1, h3, h2⟩ := k
      exact ⟨vs, e _ _ h1, h3, h2.sm e⟩
    | dct ds =>
      obtain ⟨vs, h1, h3, h2⟩ := k
      exact ⟨vs, e _ _ h1, h3, h2.sm e⟩
    | ins C ds =>
      obtain ⟨dx, vs, h1, h3, h2⟩ := k
      exact ⟨dx, vs, e _ _ h1, h3, h2.sm e⟩
    | tab q =>
      obtain ⟨ps, h1, h2, h3⟩ := k
      refine ⟨ps, e _ _ h1, h2, fun pos cv hc => ?_⟩
      obtain ⟨c, e1, e2, e3⟩ := h3 pos cv hc
      exact ⟨c, e1, e _ _ e2, e3⟩
    | sys =>
      obtain ⟨o, es, ep, h1, h2⟩ := k
      exact ⟨o, es, ep, e _ _ h1, h2⟩
    | xob C fs =>
      obtain ⟨o, us, h1, h2, h3, h4⟩ := k
      exact ⟨o, us, e _ _ h1, h2, h3, h4.imp id fun ⟨dd, gs, e1, e2, e3, e4, e5⟩ => ⟨dd, gs, e1, e2, e _ _ e3, e4, e5.sm e⟩⟩
theorem Step.same (e : Same H H') : Step S M H S M H' := ⟨fun b u n h => ⟨e _ _ h, n, Iff.rfl⟩⟩
/-- one more object stands apart -/
theorem held_set {a : Addr} {mo : MO} (f : ∀ a, ¬ S a → H a ≠ none → ¬ S' a) (k : Held S H a mo) : Held S' H a mo := by
  cases mo with
  | lst ds =>
    obtain ⟨vs, h1, h2⟩ := k
    exact ⟨vs, h1, DtA.set f ds h2⟩
  | dic ds =>
    obtain ⟨vs, h1, h3, h2⟩ := k
    exact ⟨vs, h1, h3, DtA.set f _ h2⟩
  | dct ds =>
    obtain ⟨vs, h1, h3, h2⟩ := k
    exact ⟨vs, h1, h3, DtA.set f _ h2⟩
  | ins C ds =>
    obtain ⟨dx, vs, h1, h3, h2⟩ := k
    exact ⟨dx, vs, h1, h3, DtA.set f _ h2⟩
  | tab q =>
    obtain ⟨ps, h1, h2, h3⟩ := k
    refine ⟨ps, h1, h2, fun pos cv hc => ?_⟩
    obtain ⟨c, e1, e2, e3⟩ := h3 pos cv hc
    exact ⟨c, e1, e2, f _ e3 (by rw [e2]; exact fun z => nomatch z)⟩
  | sys => exact k
  | xob C fs =>
    obtain ⟨o, us, h1, h2, h3, h4⟩ := k
    exact ⟨o, us, h1, h2, h3, h4.imp id fun ⟨dd, gs, e1, e2, e3, e4, e5⟩ => ⟨dd, gs, e1, f _ e2 (by rw [e3]; exact fun z => nomatch z), e3, e4, DtA.set f _ e5⟩⟩
theorem held_ext {a : Addr} {mo : MO} (e : Ext S H H') (ha : ∀ o, H a = some o → H' a = some o) (k : Held S H a mo) : Held S H' a mo := by
  cases mo with
  | lst ds =>
    obtain ⟨vs, h1, h2⟩ := k
    exact ⟨vs, ha _ h1, h2.go e⟩
  | dic ds =>
    obtain ⟨vs, h1, h3, h2⟩ := k
    exact ⟨vs, ha _ h1, h3, h2.go e⟩
  | dct ds =>
    obtain ⟨vs, h1, h3, h2⟩ := k
    exact ⟨vs, ha _ h1, h3, h2.go e⟩
  | ins C ds =>
    obtain ⟨dx, vs, h1, h3, h2⟩ := k
    exact ⟨dx, vs, ha _ h1, h3, h2.go e⟩
  | tab q =>
    obtain ⟨ps, h1, h2, h3⟩ := k
    refine ⟨ps, ha _ h1, h2, fun pos cv hc => ?_⟩
    obtain ⟨c, e1, e2, e3⟩ := h3 pos cv hc
    exact ⟨c, e1, e _ _ e3 e2, e3⟩
  | sys =>
    obtain ⟨o, es, ep, h1, h2⟩ := k
    exact ⟨o, es, ep, ha _ h1, h2⟩
  | xob C fs =>
    obtain ⟨o, us, h1, h2, h3, h4⟩ := k
    exact ⟨o, us, ha _ h1, h2, h3, h4.imp id fun ⟨dd, gs, e1, e2, e3, e4, e5⟩ => ⟨dd, gs, e1, e2, e _ _ e2 e3, e4, e5.go e⟩⟩
theorem Wo.apart (w : Wo S M H) {p : Addr} {o : HO} (h : H p = none) : Wo (fun a => S a ∨ a = p) M (upd H p o) := by
  have w1 := w.new (o := o) h
  refine ⟨fun a s => ?_, fun a mo e => ?_⟩
  · rcases s with s | rfl
    · exact w1.tr a s
    · rw [upd_same]
      exact fun z => nomatch z
  · obtain ⟨s, k⟩ := w.mem a mo e
    have na : a ≠ p := fun z => w.tr a s (by rw [z]; exact h)
    have k1 : Held (fun a => S a ∨ a = p) H a mo := held_set (fun b n k z => z.elim n fun q => k (by rw [q]; exact h)) k
    exact ⟨.inl s, held_ext (Ext.of (Same.new h)) (fun u hu => (upd_ne na).trans hu) k1⟩
theorem Step.apart {p : Addr} {o : HO} (h : H p = none) : Step S M H (fun a => S a ∨ a = p) M (upd H p o) := ⟨fun b u n e => ⟨Same.new h b u e, n, ⟨fun z => z.elim id fun q => (ne_of_none e h q).elim, .inl⟩⟩⟩
/-- .. and may change -/
theorem Wo.mutable (w : Wo S M H) {p : Addr} {o : HO} {mo : MO} (h : H p = none) (k : Held (fun a => S a ∨ a = p) (upd H p o) p mo) : Wo (fun a => S a ∨ a = p) (mset M p mo) (upd H p o) := by
  have w1 := w.apart (o := o) h
  refine ⟨w1.tr, fun a mo' e => ?_⟩
  by_cases c : a = p
  · subst c
    rw [mset_same] at e
    cases e
    exact ⟨.inr rfl, k⟩
  · rw [mset_ne c] at e
    exact w1.mem a mo' e
theorem Step.mutable (w : Wo S M H) {p : Addr} {o : HO} {mo : MO} (h : H p = none) : Step S M H (fun a => S a ∨ a = p) (mset M p mo) (upd H p o) := ⟨fun b u n e => ⟨Same.new h b u e, by rw [mset_ne (ne_of_none e h)]; exact n, ⟨fun z => z.elim id fun q => (ne_of_none e h q).elim, .inl⟩⟩⟩
/-- a change -/
theorem Wo.change (w : Wo S M H) {p : Addr} {o : HO} {mo mo' : MO} (h : M p = some mo) (k : Held S (upd H p o) p mo') : Wo S (mset M p mo') (upd H p o) := by
  have sp := (w.mem p mo h).1
  have ex : Ext S H (upd H p o) := Ext.mut (Ext.refl _) sp
  refine ⟨fun a s => ?_, fun a m e => ?_⟩
  · by_cases c : a = p
    · rw [c, upd_same]
      exact fun z => nomatch z
    · rw [upd_ne c]
      exact w.tr a s
  · by_cases c : a = p
    · subst c
      rw [mset_same] at e
      cases e
      exact ⟨sp, k⟩
    · rw [mset_ne c] at e
      obtain ⟨s, q⟩ := w.mem a m e
      exact ⟨s, held_ext ex (fun u hu => (upd_ne c).trans hu) q⟩
theorem Step.change {p : Addr} {o : HO} {mo mo' : MO} (h : M p = some mo) : Step S M H S (mset M p mo') (upd H p o) := ⟨fun b u n e => by
  have c : b ≠ p := by rintro rfl; rw [h] at n; cases n
  exact ⟨(upd_ne c).trans e, (mset_ne c).trans n, Iff.rfl⟩⟩
/-- an object changes no more -/
theorem Wo.freeze (w : Wo S M H) {p : Addr} : Wo (fun a => S a ∧ a ≠ p) (mdel M p) H := by
  refine ⟨fun a s => w.tr a s.1, fun a mo e => ?_⟩
  unfold mdel at e
  split at e
  · cases e
  · rename_i c
    obtain ⟨s, k⟩ := w.mem a mo e
    exact ⟨⟨s, c⟩, held_set (fun b n _ z => n z.1) k⟩
theorem Step.freeze {p : Addr} {mo : MO} (h : M p = some mo) : Step S M H (fun a => S a ∧ a ≠ p) (mdel M p) H := ⟨fun b u n e => by
  have c : b ≠ p := by rintro rfl; rw [h] at n; cases n
  exact ⟨e, (if_neg c).trans n, ⟨fun z => z.1, fun z => ⟨z, c⟩⟩⟩⟩
theorem dtA_freeze {p : Addr} {v : List V} {d : List D} (h : DtA S H v d) : DtA (fun a => S a ∧ a ≠ p) H v d := DtA.set (fun b n _ z => n z.1) d h
/-- what has been made since is of no use -/
def Mle (M M' : Mem) : Prop := ∀ a mo, M a = some mo → M' a = some mo
theorem Wo.drop (w : Wo S M' H) (l : Mle M M') : Wo S M H := ⟨w.tr, fun a mo e => w.mem a mo (l a mo e)⟩
end
abbrev QD := D → Mem → Prop
abbrev DE := Dl → Mem → QD → Prop
abbrev DT := Dl → Mem → (Bool → Mem → Prop) → Prop
abbrev DA := Dl → Mem → (List D → Mem → Prop) → Prop
/-- what is reached: S', M', H' behind S, M, H -/
def AtE (S : Addr → Prop) (M : Mem) (H : Hp) (P : QD) (Q : VK) : Prop := ∀ d S' M' v H', P d M' → Step S M H S' M' H' → Wo S' M' H' → Dt S' H' v d → Q v H'
def AtT (S : Addr → Prop) (M : Mem) (H : Hp) (P : Bool → Mem → Prop) (Q : Bool → Hp → Prop) : Prop := ∀ b S' M' H', P b M' → Step S M H S' M' H' → Wo S' M' H' → Q b H'
def AtA (S : Addr → Prop) (M : Mem) (H : Hp) (P : List D → Mem → Prop) (Q : List V → Hp → Prop) : Prop := ∀ ds S' M' vs H', P ds M' → Step S M H S' M' H' → Wo S' M' H' → DtA S' H' vs ds → Q vs H'
class PuE (t : TE) (dt : outParam DE) : Prop where
  run : ∀ S M σ δ H P Q, Wo S M H → En S H σ δ → dt δ M P → AtE S M H P Q → t σ H Q
class PuT (t : TT) (dt : outParam DT) : Prop where
  run : ∀ S M σ δ H P Q, Wo S M H → En S H σ δ → dt δ M P → AtT S M H P Q → t σ H Q
class PuA (t : TA) (dt : outParam DA) : Prop where
  run : ∀ S M σ δ H P Q, Wo S M H → En S H σ δ → dt δ M P → AtA S M H P Q → t σ H Q
section
variable {S S' : Addr → Prop} {M M' : Mem} {H H' : Hp}
theorem AtE.go {P : QD} {Q : VK} (a : AtE S M H P Q) (t : Step S M H S' M' H') : AtE S' M' H' P Q := fun d S2 M2 v H2 p t2 w2 h => a d S2 M2 v H2 p (t.trans t2) w2 h
theorem AtT.go {P : Bool → Mem → Prop} {Q : Bool → Hp → Prop} (a : AtT S M H P Q) (t : Step S M H S' M' H') : AtT S' M' H' P Q := fun d S2 M2 H2 p t2 w2 => a d S2 M2 H2 p (t.trans t2) w2
theorem AtA.go {P : List D → Mem → Prop} {Q : List V → Hp → Prop} (a : AtA S M H P Q) (t : Step S M H S' M' H') : AtA S' M' H' P Q := fun d S2 M2 v H2 p t2 w2 h => a d S2 M2 v H2 p (t.trans t2) w2 h
end
/-- an operation on two values, over data -/
abbrev DR := D → D → Mem → QD → Prop
class OpD (r : R2) (rd : outParam DR) : Prop where
  run : ∀ S M H x y dx dy P Q, Wo S M H → Dt S H x dx → Dt S H y dy → rd dx dy M P → AtE S M H P Q → r x y H Q
abbrev DC := List D → Mem → QD → Prop
class CbD (r : List V → Hp → VK → Prop) (rd : outParam DC) : Prop where
  run : ∀ S M H vs ds P Q, Wo S M H → DtA S H vs ds → rd ds M P → AtE S M H P Q → r vs H Q
/-- a tuple of either kind -/
def isTF (x : D) (xs : List D) : Prop := match x with
  | .tup ys => ys = xs
  | .ftp ys => ys = xs
  | _ => False
theorem tf_cases {x : D} {xs : List D} (h : isTF x xs) : x = .tup xs ∨ x = .ftp xs := by
  cases x <;> first | (cases h; exact .inl rfl) | (cases h; exact .inr rfl) | exact h.elim
theorem tf_get {S : Addr → Prop} {H : Hp} {v : V} {x : D} {xs : List D} (h : Dt S H v x) (e : isTF x xs) : ∃ a vs, v = .ref a ∧ ¬ S a ∧ Rd H a (.tup vs) ∧ DtA S H vs xs := by
  rcases tf_cases e with rfl | rfl
  · cases h with
    | tup n ha hs => exact ⟨_, _, rfl, n, Or.inl ha, hs⟩
  · cases h with
    | ftp n ha hd hs => exact ⟨_, _, rfl, n, Or.inr ⟨_, ha⟩, hs⟩
def dVar (i : Nat) : DE := fun δ M P => ∃ d, δ[i]? = some (some d) ∧ P d M
def dC (d : D) : DE := fun _ M P => P d M
def dOp (r : DR) (a b : DE) : DE := fun δ M P => a δ M fun x M1 => b δ M1 fun y M2 => r x y M2 P
def dNil : DA := fun _ M P => P [] M
def dCons (a : DE) (r : DA) : DA := fun δ M P => a δ M fun x M1 => r δ M1 fun xs M2 => P (x :: xs) M2
def dTup (t : DA) : DE := fun δ M P => t δ M fun xs M1 => xs.length ≤ sizeLine ∧ P (.tup xs) M1
def dLst (t : DA) : DE := fun δ M P => t δ M fun xs M1 => xs.length ≤ sizeLine ∧ P (.lst xs) M1
/-- a list that will change -/
def tLstM (t : TA) : TE := tLst t
def dLstM (t : DA) : DE := fun δ M P => t δ M fun xs M1 => xs.length ≤ sizeLine ∧ ∀ a, M1 a = none → P (.ptr a) (mset M1 a (.lst xs))
def dIf (c : DT) (a b : DE) : DE := fun δ M P => c δ M fun k M1 => if k = true then a δ M1 P else b δ M1 P
def dB (a : DE) : DT := fun δ M P => a δ M fun x M1 => ∃ b, x = .bl b ∧ P b M1
def dAnd (a b : DT) : DT := fun δ M P => a δ M fun c M1 => if c = true then b δ M1 P else P false M1
def dOr (a b : DT) : DT := fun δ M P => a δ M fun c M1 => if c = true then P true M1 else b δ M1 P
def dNot (a : DT) : DT := fun δ M P => a δ M fun c M1 => P (!c) M1
def dAndV (a b : DE) : DE := fun δ M P => a δ M fun x M1 => ∃ c, x = .bl c ∧ if c = true then b δ M1 P else P (.bl false) M1
def dOrV (a b : DE) : DE := fun δ M P => a δ M fun x M1 => ∃ c, x = .bl c ∧ if c = true then P (.bl true) M1 else b δ M1 P
def dNotV (a : DE) : DE := fun δ M P => a δ M fun x M1 => ∃ c, x = .bl c ∧ P (.bl (!c)) M1
def dChain (r r' : DR) (a b c : DE) : DE := fun δ M P => a δ M fun x M1 => b δ M1 fun y M2 => r x y M2 fun z M3 => ∃ k, z = .bl k ∧ if k = true then c δ M3 fun w M4 => r' y w M4 P else P (.bl false) M3
def dCB (r : DC) (t : DA) : DE := fun δ M P => t δ M fun xs M1 => r xs M1 P
def dThen (a : DE) (k : D → Mem → QD → Prop) : DE := fun δ M P => a δ M fun x M1 => k x M1 P
def dStar (a : DE) (t : DA) : DA := fun δ M P => a δ M fun x M1 => ∃ xs, (isTF x xs ∨ x = .lst xs ∨ ∃ p, x = .ptr p ∧ M1 p = some (.lst xs)) ∧ t δ M1 fun ys M2 => P (xs ++ ys) M2
section
variable {ta tb tc te : TE} {da db dc : DE} {r r' : R2} {rd rd' : DR} {t : TA} {dt : DA} {c c' : TT} {dk dk' : DT}
instance pu_var {i : Nat} : PuE (tVar i) (dVar i) := ⟨fun S M σ δ H P Q w e h k => by
  obtain ⟨d, hd, p⟩ := h
  obtain ⟨v, hv, hD⟩ := e.at_ i d hd
  exact ⟨v, hv, k d S M v H p .refl w hD⟩⟩
instance pu_non : PuE (tC .non) (dC .non) := ⟨fun S M σ δ H P Q w e h k => k _ S M _ H h .refl w .non⟩
instance pu_bl {b : Bool} : PuE (tC (.bl b)) (dC (.bl b)) := ⟨fun S M σ δ H P Q w e h k => k _ S M _ H h .refl w (.bl b)⟩
instance pu_int {b : Int} : PuE (tC (.int b)) (dC (.int b)) := ⟨fun S M σ δ H P Q w e h k => k _ S M _ H h .refl w (.int b)⟩
instance pu_str {b : Str} : PuE (tC (.str b)) (dC (.str b)) := ⟨fun S M σ δ H P Q w e h k => k _ S M _ H h .refl w (.str b)⟩
instance pu_ref {b : Addr} : PuE (tC (.ref b)) (dC (.ptr b)) := ⟨fun S M σ δ H P Q w e h k => k _ S M _ H h .refl w (.ptr b)⟩
instance pu_ty {b : String} : PuE (tC (.ty b)) (dC (.ty b)) := ⟨fun S M σ δ H P Q w e h k => k _ S M _ H h .refl w (.ty b)⟩
instance pu_op [A : PuE ta da] [B : PuE tb db] [R : OpD r rd] : PuE (tOp r ta tb) (dOp rd da db) := ⟨fun S M σ δ H P Q w e h k =>
  A.run S M σ δ H _ _ w e h fun d S1 M1 v H1 p1 t1 w1 h1 =>
    B.run S1 M1 σ δ H1 _ _ w1 (e.step w t1) p1 fun d2 S2 M2 v2 H2 p2 t2 w2 h2 =>
      R.run S2 M2 H2 _ _ _ _ P Q w2 (dt_step w1 t2 _ h1) h2 p2 (k.go (t1.trans t2))⟩
instance pu_nil : PuA tNil dNil := ⟨fun S M σ δ H P Q w e h k => k _ S M _ H h .refl w .nil⟩
instance pu_cons [A : PuE ta da] [B : PuA t dt] : PuA (tCons ta t) (dCons da dt) := ⟨fun S M σ δ H P Q w e h k =>
  A.run S M σ δ H _ _ w e h fun d S1 M1 v H1 p1 t1 w1 h1 =>
    B.run S1 M1 σ δ H1 _ _ w1 (e.step w t1) p1 fun d2 S2 M2 v2 H2 p2 t2 w2 h2 =>
      k _ S2 M2 _ H2 p2 (t1.trans t2) w2 (.cons (dt_step w1 t2 _ h1) h2)⟩
instance pu_tup [A : PuA t dt] : PuE (tTup t) (dTup dt) := ⟨fun S M σ δ H P Q w e h k =>
  A.run S M σ δ H _ _ w e h fun d S1 M1 v H1 p1 t1 w1 h1 => ⟨by rw [h1.length]; exact p1.1, fun p np =>
    k _ S1 M1 _ _ p1.2 (t1.trans (.new np)) (w1.new np) (.tup (w1.ns np) upd_same (h1.sm (Same.new np)))⟩⟩
instance pu_lst [A : PuA t dt] : PuE (tLst t) (dLst dt) := ⟨fun S M σ δ H P Q w e h k =>
  A.run S M σ δ H _ _ w e h fun d S1 M1 v H1 p1 t1 w1 h1 => ⟨by rw [h1.length]; exact p1.1, fun p np =>
    k _ S1 M1 _ _ p1.2 (t1.trans (.new np)) (w1.new np) (.lst (w1.ns np) upd_same (h1.sm (Same.new np)))⟩⟩
instance pu_lstM [A : PuA t dt] : PuE (tLstM t) (dLstM dt) := ⟨fun S M σ δ H P Q w e h k =>
  A.run S M σ δ H _ _ w e h fun d S1 M1 v H1 p1 t1 w1 h1 => ⟨by rw [h1.length]; exact p1.1, fun p np =>
    k _ _ _ _ _ (p1.2 p (w1.fresh np)) (t1.trans (Step.mutable w1 np)) (w1.mutable np ⟨_, upd_same, (DtA.set (fun b n k z => z.elim n fun q => k (by rw [q]; exact np)) _ h1).sm (Same.new np)⟩) (.ptr p)⟩⟩
instance pu_if [C : PuT c dk] [A : PuE ta da] [B : PuE tb db] : PuE (tIf c ta tb) (dIf dk da db) := ⟨fun S M σ δ H P Q w e h k =>
  C.run S M σ δ H _ _ w e h fun b S1 M1 H1 p1 t1 w1 => by
    cases b with
    | true =>
      rw [if_pos rfl] at p1 ⊢
      exact A.run S1 M1 σ δ H1 P Q w1 (e.step w t1) p1 (k.go t1)
    | false =>
      rw [if_neg Bool.false_ne_true] at p1 ⊢
      exact B.run S1 M1 σ δ H1 P Q w1 (e.step w t1) p1 (k.go t1)⟩
instance pu_tB [A : PuE ta da] : PuT (tB ta) (dB da) := ⟨fun S M σ δ H P Q w e h k =>
  A.run S M σ δ H _ _ w e h fun d S1 M1 v H1 p1 t1 w1 h1 => by
    obtain ⟨b, rfl, p1⟩ := p1
    cases h1
    exact ⟨b, rfl, k b S1 M1 H1 p1 t1 w1⟩⟩
instance pu_tTest [A : PuE ta da] : PuT (tTest ta) (dB da) := ⟨fun S M σ δ H P Q w e h k =>
  A.run S M σ δ H _ _ w e h fun d S1 M1 v H1 p1 t1 w1 h1 => by
    obtain ⟨b, rfl, p1⟩ := p1
    cases h1
    exact ⟨b, rfl, k b S1 M1 H1 p1 t1 w1⟩⟩
instance pu_and [A : PuT c dk] [B : PuT c' dk'] : PuT (tAnd c c') (dAnd dk dk') := ⟨fun S M σ δ H P Q w e h k =>
  A.run S M σ δ H _ _ w e h fun b S1 M1 H1 p1 t1 w1 => by
    cases b with
    | true =>
      rw [if_pos rfl] at p1 ⊢
      exact B.run S1 M1 σ δ H1 P Q w1 (e.step w t1) p1 (k.go t1)
    | false =>
      rw [if_neg Bool.false_ne_true] at p1 ⊢
      exact k false S1 M1 H1 p1 t1 w1⟩
instance pu_or [A : PuT c dk] [B : PuT c' dk'] : PuT (tOr c c') (dOr dk dk') := ⟨fun S M σ δ H P Q w e h k =>
  A.run S M σ δ H _ _ w e h fun b S1 M1 H1 p1 t1 w1 => by
    cases b with
    | true =>
      rw [if_pos rfl] at p1 ⊢
      exact k true S1 M1 H1 p1 t1 w1
    | false =>
      rw [if_neg Bool.false_ne_true] at p1 ⊢
      exact B.run S1 M1 σ δ H1 P Q w1 (e.step w t1) p1 (k.go t1)⟩
instance pu_not [A : PuT c dk] : PuT (tNot c) (dNot dk) := ⟨fun S M σ δ H P Q w e h k =>
  A.run S M σ δ H _ _ w e h fun b S1 M1 H1 p1 t1 w1 => k _ S1 M1 H1 p1 t1 w1⟩
instance pu_andV [A : PuE ta da] [B : PuE tb db] : PuE (tAndV ta tb) (dAndV da db) := ⟨fun S M σ δ H P Q w e h k =>
  A.run S M σ δ H _ _ w e h fun d S1 M1 v H1 p1 t1 w1 h1 => by
    obtain ⟨b, rfl, p1⟩ := p1
    cases h1
    refine ⟨b, rfl, ?_⟩
    cases b with
    | true =>
      rw [if_pos rfl] at p1 ⊢
      exact B.run S1 M1 σ δ H1 P Q w1 (e.step w t1) p1 (k.go t1)
    | false =>
      rw [if_neg Bool.false_ne_true] at p1 ⊢
      exact k _ S1 M1 _ H1 p1 t1 w1 (.bl false)⟩
instance pu_orV [A : PuE ta da] [B : PuE tb db] : PuE (tOrV ta tb) (dOrV da db) := ⟨fun S M σ δ H P Q w e h k =>
  A.run S M σ δ H _ _ w e h fun d S1 M1 v H1 p1 t1 w1 h1 => by
    obtain ⟨b, rfl, p1⟩ := p1
    cases h1
    refine ⟨b, rfl, ?_⟩
    cases b with
    | true =>
      rw [if_pos rfl] at p1 ⊢
      exact k _ S1 M1 _ H1 p1 t1 w1 (.bl true)
    | false =>
      rw [if_neg Bool.false_ne_true] at p1 ⊢
      exact B.run S1 M1 σ δ H1 P Q w1 (e.step w t1) p1 (k.go t1)⟩
instance pu_notV [A : PuE ta da] : PuE (tNotV ta) (dNotV da) := ⟨fun S M σ δ H P Q w e h k =>
  A.run S M σ δ H _ _ w e h fun d S1 M1 v H1 p1 t1 w1 h1 => by
    obtain ⟨b, rfl, p1⟩ := p1
    cases h1
    exact ⟨b, rfl, k _ S1 M1 _ H1 p1 t1 w1 (.bl _)⟩⟩
instance pu_chain [A : PuE ta da] [B : PuE tb db] [C : PuE tc dc] [R : OpD r rd] [R' : OpD r' rd'] : PuE (tChain r r' ta tb tc) (dChain rd rd' da db dc) := ⟨fun S M σ δ H P Q w e h k =>
  A.run S M σ δ H _ _ w e h fun d S1 M1 v H1 p1 t1 w1 h1 =>
    B.run S1 M1 σ δ H1 _ _ w1 (e.step w t1) p1 fun d2 S2 M2 v2 H2 p2 t2 w2 h2 =>
      R.run S2 M2 H2 _ _ _ _ _ _ w2 (dt_step w1 t2 _ h1) h2 p2 fun d3 S3 M3 v3 H3 p3 t3 w3 h3 => by
        obtain ⟨b, rfl, p3⟩ := p3
        cases h3
        refine ⟨b, rfl, ?_⟩
        have t13 := (t1.trans t2).trans t3
        cases b with
        | true =>
          rw [if_pos rfl] at p3 ⊢
          exact C.run S3 M3 σ δ H3 _ _ w3 (e.step w t13) p3 fun d4 S4 M4 v4 H4 p4 t4 w4 h4 => R'.run S4 M4 H4 _ _ _ _ P Q w4 (dt_step w2 (t3.trans t4) _ h2) h4 p4 (k.go (t13.trans t4))
        | false =>
          rw [if_neg Bool.false_ne_true] at p3 ⊢
          exact k _ S3 M3 _ H3 p3 t13 w3 (.bl false)⟩
instance pu_cb {r : List V → Hp → VK → Prop} {rd : DC} [A : PuA t dt] [R : CbD r rd] : PuE (tCB r t) (dCB rd dt) := ⟨fun S M σ δ H P Q w e h k =>
  A.run S M σ δ H _ _ w e h fun d S1 M1 v H1 p1 t1 w1 h1 => R.run S1 M1 H1 _ _ P Q w1 h1 p1 (k.go t1)⟩
instance pu_star {K : PySem.W.Frag} [A : PuE te da] [B : PuA t dt] : PuA (tStar K te t) (dStar da dt) := ⟨fun S M σ δ H P Q w e h k =>
  A.run S M σ δ H _ _ w e h fun d S1 M1 v H1 p1 t1 w1 h1 => by
    obtain ⟨xs, hx, p1⟩ := p1
    have go : ∀ vs, DtA S1 H1 vs xs → t σ H1 (fun ys H2 => Q (vs ++ ys) H2) := fun vs hvs =>
      B.run S1 M1 σ δ H1 _ _ w1 (e.step w t1) p1 fun d2 S2 M2 v2 H2 p2 t2 w2 h2 => k _ S2 M2 _ H2 p2 (t1.trans t2) w2 ((dtA_step w1 t2 _ hvs).append h2)
    rcases hx with hx | rfl | ⟨p, rfl, hp⟩
    · obtain ⟨a, vs, rfl, n, ha, hs⟩ := tf_get h1 hx
      exact ⟨_, _, rfl, .inl (Or.inl ha), go _ hs⟩
    · cases h1 with
      | lst n ha hs => exact ⟨_, _, rfl, .inr (SqL.of ha), go _ hs⟩
    · cases h1
      obtain ⟨_, vs, ha, hs⟩ := w1.mem p _ hp
      exact ⟨_, _, rfl, .inr (SqL.of ha), go _ hs⟩⟩
end
end V
namespace V
open PySem PySem.Spec PyProof.Rows L2 U StX
mutual
def D.eqb : D → D → Bool
  | .non, .non => true
  | .bl a, .bl b => a == b
  | .bl a, .int j => (if a then 1 else 0) == j
  | .int i, .bl b => i == (if b then 1 else 0)
  | .int i, .int j => i == j
  | .str x, .str y => x == y
  | .lst xs, .lst ys => D.eqbs xs ys
  | .tup xs, .tup ys => D.eqbs xs ys
  | .tup xs, .ftp ys => D.eqbs xs ys
  | .ftp xs, .tup ys => D.eqbs xs ys
  | .ftp xs, .ftp ys => D.eqbs xs ys
  | _, _ => false
def D.eqbs : List D → List D → Bool
  | [], [] => true
  | x :: xs, y :: ys => D.eqb x y && D.eqbs xs ys
  | _, _ => false
end
theorem py_lst {ds : List D} {p : PyData} (h : D.py (.lst ds) = some p) : ∃ ps, D.pys ds = some ps ∧ p = .list ps := by
  rw [D.py] at h
  obtain ⟨ps, h1, h2⟩ := Option.map_eq_some_iff.mp h
  exact ⟨ps, h1, h2.symm⟩
theorem py_tup {ds : List D} {p : PyData} (h : D.py (.tup ds) = some p) : ∃ ps, D.pys ds = some ps ∧ p = .tuple ps := by
  rw [D.py] at h
  obtain ⟨ps, h1, h2⟩ := Option.map_eq_some_iff.mp h
  exact ⟨ps, h1, h2.symm⟩
theorem py_ftp {ds : List D} {p : PyData} (h : D.py (.ftp ds) = some p) : ∃ ps, D.pys ds = some ps ∧ p = .tuple ps := by
  rw [D.py] at h
  obtain ⟨ps, h1, h2⟩ := Option.map_eq_some_iff.mp h
  exact ⟨ps, h1, h2.symm⟩
theorem pys_cons {d : D} {ds : List D} {q : List PyData} (h : D.pys (d :: ds) = some q) : ∃ p ps, D.py d = some p ∧ D.pys ds = some ps ∧ q = p :: ps := by
  rw [D.pys] at h
  cases h1 : D.py d with
  | none => rw [h1] at h; cases h
  | some p =>
    cases h2 : D.pys ds with
    | none => rw [h1, h2] at h; cases h
    | some ps => rw [h1, h2] at h; cases h; exact ⟨p, ps, rfl, rfl, rfl⟩
mutual
theorem eqv_py : ∀ (d e : D) (p q : PyData), D.py d = some p → D.py e = some q → PyData.eqv p q = D.eqb d e
  | .non, e, p, q, hp, hq => by
    rw [D.py] at hp; cases hp
    cases e <;> first | (rw [D.py] at hq; cases hq; first | rfl | (rw [PyData.eqv, D.eqb] <;> simp)) | (obtain ⟨_, _, rfl⟩ := py_lst hq; rw [PyData.eqv, D.eqb] <;> simp) | (obtain ⟨_, _, rfl⟩ := py_tup hq; rw [PyData.eqv, D.eqb] <;> simp) | (obtain ⟨_, _, rfl⟩ := py_ftp hq; rw [PyData.eqv, D.eqb] <;> simp) | (rw [D.py] at hq <;> first | cases hq | simp)
  | .bl b, e, p, q, hp, hq => by
    rw [D.py] at hp; cases hp
    cases e <;> first | (rw [D.py] at hq; cases hq; first | rfl | (rw [PyData.eqv, D.eqb] <;> simp)) | (obtain ⟨_, _, rfl⟩ := py_lst hq; rw [PyData.eqv, D.eqb] <;> simp) | (obtain ⟨_, _, rfl⟩ := py_tup hq; rw [PyData.eqv, D.eqb] <;> simp) | (obtain ⟨_, _, rfl⟩ := py_ftp hq; rw [PyData.eqv, D.eqb] <;> simp) | (rw [D.py] at hq <;> first | cases hq | simp)
  | .int i, e, p, q, hp, hq => by
    rw [D.py] at hp; cases hp
    cases e <;> first | (rw [D.py] at hq; cases hq; first | rfl | (rw [PyData.eqv, D.eqb] <;> simp)) | (obtain ⟨_, _, rfl⟩ := py_lst hq; rw [PyData.eqv, D.eqb] <;> simp) | (obtain ⟨_, _, rfl⟩ := py_tup hq; rw [PyData.eqv, D.eqb] <;> simp) | (obtain ⟨_, _, rfl⟩ := py_ftp hq; rw [PyData.eqv, D.eqb] <;> simp) | (rw [D.py] at hq <;> first | cases hq | simp)
  | .str x, e, p, q, hp, hq => by
    rw [D.py] at hp; cases hp
    cases e <;> first | (rw [D.py] at hq; cases hq; first | rfl | (rw [PyData.eqv, D.eqb] <;> simp)) | (obtain ⟨_, _, rfl⟩ := py_lst hq; rw [PyData.eqv, D.eqb] <;> simp) | (obtain ⟨_, _, rfl⟩ := py_tup hq; rw [PyData.eqv, D.eqb] <;> simp) | (obtain ⟨_, _, rfl⟩ := py_ftp hq; rw [PyData.eqv, D.eqb] <;> simp) | (rw [D.py] at hq <;> first | cases hq | simp)
  | .lst ds, e, p, q, hp, hq => by
    obtain ⟨ps, h1, rfl⟩ := py_lst hp
    cases e with
    | lst es =>
      obtain ⟨qs, h2, rfl⟩ := py_lst hq
      rw [PyData.eqv, D.eqb]
      exact eqvs_py ds es ps qs h1 h2
    | tup es => obtain ⟨_, _, rfl⟩ := py_tup hq; rw [PyData.eqv, D.eqb] <;> simp
    | ftp es => obtain ⟨_, _, rfl⟩ := py_ftp hq; rw [PyData.eqv, D.eqb] <;> simp
    | _ => first | (rw [D.py] at hq; cases hq; rw [PyData.eqv, D.eqb] <;> simp) | (rw [D.py] at hq <;> first | cases hq | simp)
  | .tup ds, e, p, q, hp, hq => by
    obtain ⟨ps, h1, rfl⟩ := py_tup hp
    cases e with
    | tup es =>
      obtain ⟨qs, h2, rfl⟩ := py_tup hq
      rw [PyData.eqv, D.eqb]
      exact eqvs_py ds es ps qs h1 h2
    | lst es => obtain ⟨_, _, rfl⟩ := py_lst hq; rw [PyData.eqv, D.eqb] <;> simp
    | ftp es =>
      obtain ⟨qs, h2, rfl⟩ := py_ftp hq
      rw [PyData.eqv, D.eqb]
      exact eqvs_py ds es ps qs h1 h2
    | _ => first | (rw [D.py] at hq; cases hq; rw [PyData.eqv, D.eqb] <;> simp) | (rw [D.py] at hq <;> first | cases hq | simp)
  | .ins C ns xs, e, p, q, hp, hq => by rw [D.py] at hp <;> first | cases hp | simp
  | .ptr a, e, p, q, hp, hq => by rw [D.py] at hp <;> first | cases hp | simp
  | .ty a, e, p, q, hp, hq => by rw [D.py] at hp <;> first | cases hp | simp
  | .opq a o, e, p, q, hp, hq => by rw [D.py] at hp <;> first | cases hp | simp
  | .ftp ds, e, p, q, hp, hq => by
    obtain ⟨ps, h1, rfl⟩ := py_ftp hp
    cases e with
    | tup es =>
      obtain ⟨qs, h2, rfl⟩ := py_tup hq
      rw [PyData.eqv, D.eqb]
      exact eqvs_py ds es ps qs h1 h2
    | ftp es =>
      obtain ⟨qs, h2, rfl⟩ := py_ftp hq
      rw [PyData.eqv, D.eqb]
      exact eqvs_py ds es ps qs h1 h2
    | lst es => obtain ⟨_, _, rfl⟩ := py_lst hq; rw [PyData.eqv, D.eqb] <;> simp
    | _ => first | (rw [D.py] at hq; cases hq; rw [PyData.eqv, D.eqb] <;> simp) | (rw [D.py] at hq <;> first | cases hq | simp)
theorem eqvs_py : ∀ (ds es : List D) (ps qs : List PyData), D.pys ds = some ps → D.pys es = some qs → PyData.eqvAll ps qs = D.eqbs ds es
  | [], [], ps, qs, hp, hq => by rw [D.pys] at hp hq; cases hp; cases hq; rw [PyData.eqvAll, D.eqbs]
  | [], e :: es, ps, qs, hp, hq => by
    obtain ⟨p, qs, h1, h2, rfl⟩ := pys_cons hq
    rw [D.pys] at hp; cases hp
    rw [PyData.eqvAll, D.eqbs] <;> simp
  | d :: ds, [], ps, qs, hp, hq => by
    obtain ⟨p, qs, h1, h2, rfl⟩ := pys_cons hp
    rw [D.pys] at hq; cases hq
    rw [PyData.eqvAll, D.eqbs] <;> simp
  | d :: ds, e :: es, ps, qs, hp, hq => by
    obtain ⟨p, ps, h1, h2, rfl⟩ := pys_cons hp
    obtain ⟨q, qs, h3, h4, rfl⟩ := pys_cons hq
    rw [PyData.eqvAll, D.eqbs, eqv_py d e p q h1 h3, eqvs_py ds es ps qs h2 h4]
end
/-- data that == looks through -/
def EqOk (d : D) : Prop := ∃ p, D.py d = some p ∧ SeqAt.shaped p = true
theorem EqOk.of {W k : Nat} {d : D} (h : okP W k d) (hk : k ≤ 64) : EqOk d := by
  obtain ⟨p, e, o⟩ := h
  exact ⟨p, e, o.shaped hk⟩
theorem eqb_refl {d : D} (h : EqOk d) : D.eqb d d = true := by
  obtain ⟨p, e, s⟩ := h
  rw [← eqv_py d d p p e e]
  exact SeqAt.eqv_refl p (Bool.and_eq_true_iff.mp s).1
/-- what a name of a changing list stands for -/
def vw (M : Mem) (d : D) : D := match d with
  | .ptr a => match M a with
    | some (.lst ds) => .lst ds
    | _ => .ptr a
  | d => d
section
variable {S S' : Addr → Prop} {M M' : Mem} {H H' : Hp} {K : PySem.W.Frag}
theorem dt_vw (w : Wo S M H) {v : V} {d : D} {p : PyData} (h : Dt S H v d) (e : D.py (vw M d) = some p) : Dp K H v p := by
  cases d with
  | ptr a =>
    unfold vw at e
    cases hm : M a with
    | none => simp only [hm] at e; rw [D.py] at e <;> first | cases e | simp
    | some mo =>
      cases mo with
      | lst ds =>
        simp only [hm] at e
        cases h
        obtain ⟨_, vs, h1, h2⟩ := w.mem a _ hm
        obtain ⟨ps, e1, rfl⟩ := py_lst e
        exact .lst (SqL.of h1) (DtA.dp ds h2 e1)
      | dic ds => simp only [hm] at e; rw [D.py] at e <;> first | cases e | simp
      | dct ds => simp only [hm] at e; rw [D.py] at e <;> first | cases e | simp
      | ins C ds => simp only [hm] at e; rw [D.py] at e <;> first | cases e | simp
      | tab q => simp only [hm] at e; rw [D.py] at e <;> first | cases e | simp
      | sys => simp only [hm] at e; rw [D.py] at e <;> first | cases e | simp
      | xob C fs => simp only [hm] at e; rw [D.py] at e <;> first | cases e | simp
  | _ => exact Dt.dp _ h e
end
/-- == : flat values as they are, data by its contents -/
def rEqA (K : PySem.W.Frag) : R2 := fun x y H Q => (scal x y = true ∧ Q (.bl (decide (x = y))) H) ∨ rEqD K x y H Q
def rNeA (K : PySem.W.Frag) : R2 := fun x y H Q => (scal x y = true ∧ Q (.bl (!decide (x = y))) H) ∨ rNeD K x y H Q
section
variable {X : Cx} {K : PySem.W.Frag}
theorem op_eqA (h : X.K = K) (hu : X.A.units + 64 < cLine) : OpR X (compareOp .Eq) (rEqA K) := by
  subst h
  intro pins s σ H x y v u Q I rx ry h
  rcases h with h | h
  · exact op_eq pins s σ H _ _ v u Q I rx ry h
  · exact op_eqD hu pins s σ H _ _ v u Q I rx ry h
theorem op_neA (h : X.K = K) (hu : X.A.units + 64 < cLine) : OpR X (compareOp .NotEq) (rNeA K) := by
  subst h
  intro pins s σ H x y v u Q I rx ry h
  rcases h with h | h
  · exact op_ne pins s σ H _ _ v u Q I rx ry h
  · exact op_neD hu pins s σ H _ _ v u Q I rx ry h
end
def eqR (M : Mem) (x y : D) (P : Bool → Prop) : Prop := match x, y with
  | .int i, .int j => P (decide (i = j))
  | .str a, .str b => P (decide (a = b))
  | .bl a, .bl b => P (decide (a = b))
  | .non, .non => P true
  | .non, .str _ => P false
  | .str _, .non => P false
  | .non, .int _ => P false
  | .int _, .non => P false
  | .int _, .str _ => P false
  | .str _, .int _ => P false
  | x, y => EqOk (vw M x) ∧ EqOk (vw M y) ∧ P (D.eqb (vw M x) (vw M y))
theorem eqR_go {S : Addr → Prop} {M : Mem} {H : Hp} {K : PySem.W.Frag} (w : Wo S M H) {x y : V} {dx dy : D} {P : Bool → Prop} (hx : Dt S H x dx) (hy : Dt S H y dy) (h : eqR M dx dy P) :
    (∃ b, scal x y = true ∧ decide (x = y) = b ∧ P b) ∨ ∃ p q, Dp K H x p ∧ Dp K H y q ∧ SeqAt.shaped p = true ∧ SeqAt.shaped q = true ∧ P (PyData.eqv p q) := by
  have gen : EqOk (vw M dx) ∧ EqOk (vw M dy) ∧ P (D.eqb (vw M dx) (vw M dy)) → ∃ p q, Dp K H x p ∧ Dp K H y q ∧ SeqAt.shaped p = true ∧ SeqAt.shaped q = true ∧ P (PyData.eqv p q) := by
    rintro ⟨⟨p, e1, s1⟩, ⟨q, e2, s2⟩, hp⟩
    exact ⟨p, q, dt_vw w hx e1, dt_vw w hy e2, s1, s2, by rw [eqv_py _ _ p q e1 e2]; exact hp⟩
  unfold eqR at h
  split at h
  · cases hx; cases hy; exact .inl ⟨_, rfl, by simp, h⟩
  · cases hx; cases hy; exact .inl ⟨_, rfl, by simp, h⟩
  · cases hx; cases hy; exact .inl ⟨_, rfl, by simp, h⟩
  · cases hx; cases hy; exact .inl ⟨_, rfl, by simp, h⟩
  · cases hx; cases hy; exact .inl ⟨_, rfl, by simp, h⟩
  · cases hx; cases hy; exact .inl ⟨_, rfl, by simp, h⟩
  · cases hx; cases hy; exact .inl ⟨_, rfl, by simp, h⟩
  · cases hx; cases hy; exact .inl ⟨_, rfl, by simp, h⟩
  · cases hx; cases hy; exact .inl ⟨_, rfl, by simp, h⟩
  · cases hx; cases hy; exact .inl ⟨_, rfl, by simp, h⟩
  · exact .inr (gen h)
def rEq1 : DR := fun x y M P => eqR M x y fun b => P (.bl b) M
def rNe1 : DR := fun x y M P => eqR M x y fun b => P (.bl (!b)) M
instance op_eq1 {K : PySem.W.Frag} : OpD (rEqA K) rEq1 := ⟨fun S M H x y dx dy P Q w hx hy h k => by
  rcases eqR_go (K := K) w hx hy h with ⟨b, s, e, p⟩ | ⟨p, q, h1, h2, h3, h4, h5⟩
  · exact .inl ⟨s, by rw [e]; exact k _ S M _ H p .refl w (.bl _)⟩
  · exact .inr ⟨p, q, h1, h2, h3, h4, k _ S M _ H h5 .refl w (.bl _)⟩⟩
instance op_ne1 {K : PySem.W.Frag} : OpD (rNeA K) rNe1 := ⟨fun S M H x y dx dy P Q w hx hy h k => by
  rcases eqR_go (K := K) w hx hy h with ⟨b, s, e, p⟩ | ⟨p, q, h1, h2, h3, h4, h5⟩
  · exact .inl ⟨s, by rw [e]; exact k _ S M _ H p .refl w (.bl _)⟩
  · exact .inr ⟨p, q, h1, h2, h3, h4, k _ S M _ H h5 .refl w (.bl _)⟩⟩
/-- what stands in a list, a tuple -/
def isSq (M : Mem) (d : D) (xs : List D) : Prop := d = .lst xs ∨ isTF d xs ∨ ∃ a, d = .ptr a ∧ M a = some (.lst xs)
def isLs (M : Mem) (d : D) (xs : List D) : Prop := d = .lst xs ∨ ∃ a, d = .ptr a ∧ M a = some (.lst xs)
section
variable {S : Addr → Prop} {M : Mem} {H : Hp} {K : PySem.W.Frag} {v : V} {d : D} {xs : List D}
theorem sq_get (w : Wo S M H) (h : Dt S H v d) (e : isSq M d xs) : ∃ a vs, v = .ref a ∧ (H a = some (.lst vs) ∨ Rd H a (.tup vs)) ∧ DtA S H vs xs := by
  rcases e with rfl | e | ⟨a, rfl, e⟩
  · cases h with
    | lst n ha hs => exact ⟨_, _, rfl, .inl ha, hs⟩
  · obtain ⟨a, vs, rfl, n, ha, hs⟩ := tf_get h e
    exact ⟨_, _, rfl, .inr ha, hs⟩
  · cases h
    obtain ⟨_, vs, h1, h2⟩ := w.mem a _ e
    exact ⟨a, vs, rfl, .inl h1, h2⟩
theorem ls_get (w : Wo S M H) (h : Dt S H v d) (e : isLs M d xs) : ∃ a vs, v = .ref a ∧ H a = some (.lst vs) ∧ DtA S H vs xs := by
  rcases e with rfl | ⟨a, rfl, e⟩
  · cases h with
    | lst n ha hs => exact ⟨_, _, rfl, ha, hs⟩
  · cases h
    obtain ⟨_, vs, h1, h2⟩ := w.mem a _ e
    exact ⟨a, vs, rfl, h1, h2⟩
end
def rAdd1 : DR := fun x y M P => match x, y with
  | .int i, .int j => P (.int (i + j)) M
  | .str a, .str b => a.length + b.length ≤ sizeLine ∧ P (.str (a ++ b)) M
  | x, y => ∃ xs ys, isLs M x xs ∧ isLs M y ys ∧ xs.length + ys.length ≤ sizeLine ∧ P (.lst (xs ++ ys)) M
theorem rAddU_l {a b : Addr} {xs ys : List V} {H : Hp} {Q : VK} (h1 : H a = some (.lst xs)) (h2 : H b = some (.lst ys)) (hl : xs.length + ys.length ≤ sizeLine) (q : ∀ r, H r = none → Q (.ref r) (upd H r (.lst (xs ++ ys)))) : rAddU (.ref a) (.ref b) H Q := ⟨xs, ys, h1, h2, hl, q⟩
instance op_add1 : OpD rAddU rAdd1 := ⟨fun S M H x y dx dy P Q w hx hy h k => by
  unfold rAdd1 at h
  split at h
  · cases hx; cases hy; exact k _ S M _ H h .refl w (.int _)
  · cases hx; cases hy; exact ⟨h.1, k _ S M _ H h.2 .refl w (.str _)⟩
  · obtain ⟨xs, ys, h1, h2, hl, p⟩ := h
    obtain ⟨a, vs, rfl, ha, hs⟩ := ls_get w hx h1
    obtain ⟨b, ws, rfl, hb, ht⟩ := ls_get w hy h2
    exact rAddU_l ha hb (by rw [hs.length, ht.length]; exact hl) fun r nr => k _ S M _ _ p (.new nr) (w.new nr) (.lst (w.ns nr) upd_same ((hs.append ht).sm (Same.new nr)))⟩
/-- a value made of two numbers -/
class VD (f : Int → Int → V) (g : outParam (Int → Int → D)) : Prop where
  run : ∀ S H i j, Dt S H (f i j) (g i j)
instance vd_int {f : Int → Int → Int} : VD (fun i j => .int (f i j)) (fun i j => .int (f i j)) := ⟨fun _ _ _ _ => .int _⟩
instance vd_bl {f : Int → Int → Bool} : VD (fun i j => .bl (f i j)) (fun i j => .bl (f i j)) := ⟨fun _ _ _ _ => .bl _⟩
def rI1 (f : Int → Int → D) : DR := fun x y M P => ∃ i j, x = .int i ∧ y = .int j ∧ P (f i j) M
def rIC1 (C : Int → Int → Prop) (f : Int → Int → D) : DR := fun x y M P => ∃ i j, x = .int i ∧ y = .int j ∧ C i j ∧ P (f i j) M
instance op_I1 {f : Int → Int → V} {g : Int → Int → D} [F : VD f g] : OpD (rI0 f) (V.rI1 g) := ⟨fun S M H x y dx dy P Q w hx hy h k => by
  obtain ⟨i, j, rfl, rfl, p⟩ := h
  cases hx; cases hy
  exact ⟨i, j, rfl, rfl, k _ S M _ H p .refl w (F.run S H i j)⟩⟩
instance op_IC1 {C : Int → Int → Prop} {f : Int → Int → V} {g : Int → Int → D} [F : VD f g] : OpD (rI C f) (rIC1 C g) := ⟨fun S M H x y dx dy P Q w hx hy h k => by
  obtain ⟨i, j, rfl, rfl, c, p⟩ := h
  cases hx; cases hy
  exact ⟨i, j, rfl, rfl, c, k _ S M _ H p .refl w (F.run S H i j)⟩⟩
def rLt1 : DR := fun x y M P => match x, y with
  | .int i, .int j => P (.bl (decide (i < j))) M
  | .str i, .str j => P (.bl (decide (i.cps.toList < j.cps.toList))) M
  | _, _ => False
instance op_lt1 : OpD rLtU rLt1 := ⟨fun S M H x y dx dy P Q w hx hy h k => by
  unfold rLt1 at h
  split at h
  · cases hx; cases hy; exact k _ S M _ H h .refl w (.bl _)
  · cases hx; cases hy; exact k _ S M _ H h .refl w (.bl _)
  · exact h.elim⟩
def isNon : D → Bool
  | .non => true
  | _ => false
theorem isNon_V {S : Addr → Prop} {H : Hp} {x : V} {d : D} (h : Dt S H x d) : decide (x = V.non) = isNon d := by cases h <;> simp [isNon]
def rIsN1 : DR := fun x y M P => y = .non ∧ P (.bl (isNon x)) M
def rNotN1 : DR := fun x y M P => y = .non ∧ P (.bl (!isNon x)) M
instance op_isN1' : OpD rIsN rIsN1 := ⟨fun S M H x y dx dy P Q w hx hy h k => by
  obtain ⟨rfl, p⟩ := h
  cases hy
  refine ⟨rfl, ?_⟩
  rw [isNon_V hx]
  exact k _ S M _ H p .refl w (.bl _)⟩
instance op_notN1' : OpD rNotN rNotN1 := ⟨fun S M H x y dx dy P Q w hx hy h k => by
  obtain ⟨rfl, p⟩ := h
  cases hy
  refine ⟨rfl, ?_⟩
  rw [isNon_V hx]
  exact k _ S M _ H p .refl w (.bl _)⟩
def rIsB1 : DR := fun x y M P => ∃ a b, x = .bl a ∧ y = .bl b ∧ P (.bl (decide (a = b))) M
def rNotB1 : DR := fun x y M P => ∃ a b, x = .bl a ∧ y = .bl b ∧ P (.bl (!decide (a = b))) M
instance op_isB1 : OpD rIsB rIsB1 := ⟨fun S M H x y dx dy P Q w hx hy h k => by
  obtain ⟨a, b, rfl, rfl, p⟩ := h
  cases hx; cases hy
  exact ⟨a, b, rfl, rfl, k _ S M _ H p .refl w (.bl _)⟩⟩
instance op_notB1 : OpD rNotB rNotB1 := ⟨fun S M H x y dx dy P Q w hx hy h k => by
  obtain ⟨a, b, rfl, rfl, p⟩ := h
  cases hx; cases hy
  exact ⟨a, b, rfl, rfl, k _ S M _ H p .refl w (.bl _)⟩⟩
def flatD : D → Bool
  | .non => true
  | .bl _ => true
  | .int _ => true
  | .str _ => true
  | _ => false
section
variable {S : Addr → Prop} {H : Hp}
theorem flat_V {v : V} {d : D} (h : Dt S H v d) (f : flatD d = true) : flatV v = true := by
  cases h <;> first | rfl | cases f
theorem flats_V : ∀ {vs : List V} {ds : List D}, DtA S H vs ds → ds.all flatD = true → vs.all flatV = true
  | _, _, .nil, _ => rfl
  | _, _, .cons h t, f => by
    rw [List.all_cons, Bool.and_eq_true] at f
    rw [List.all_cons, flat_V h f.1, flats_V t f.2]
    rfl
theorem eqV_D {v u : V} {d e : D} (h : Dt S H v d) (k : Dt S H u e) (f : flatD d = true) (g : flatD e = true) : eqV v u = D.eqb d e := by
  cases h <;> first | (cases f; done) | (cases k <;> first | (cases g; done) | (first | rfl | (rw [D.eqb] <;> first | rfl | simp [eqV])))
theorem inV_D {v : V} {d : D} (h : Dt S H v d) (f : flatD d = true) : ∀ {vs : List V} {ds : List D}, DtA S H vs ds → ds.all flatD = true → inV v vs = ds.any fun e => D.eqb e d
  | _, _, .nil, _ => rfl
  | _, _, .cons h1 t, g => by
    rw [List.all_cons, Bool.and_eq_true] at g
    show (eqV _ v || inV v _) = _
    rw [List.any_cons, inV_D h f t g.2, eqV_D h1 h g.1 f]
end
def inR (M : Mem) (x y : D) (P : Bool → Prop) : Prop := match y with
  | .str z => ∃ c, x = .str (one c) ∧ P (decide (c ∈ cd z))
  | y => ∃ ys, isSq M y ys ∧ flatD x = true ∧ ys.all flatD = true ∧ P (ys.any fun e => D.eqb e x)
def rIn1 : DR := fun x y M P => inR M x y fun b => P (.bl b) M
def rNin1 : DR := fun x y M P => inR M x y fun b => P (.bl (!b)) M
theorem inR_go {S : Addr → Prop} {M : Mem} {H : Hp} {K : PySem.W.Frag} (w : Wo S M H) {x y : V} {dx dy : D} {P : Bool → Prop} (hx : Dt S H x dx) (hy : Dt S H y dy) (h : inR M dx dy P) :
    (∃ z c, y = .str z ∧ x = .str ⟨#[c]⟩ ∧ P (decide (c ∈ z.cps.toList))) ∨ ∃ p xs, y = .ref p ∧ (SqL K H p xs ∨ SqT K H p xs) ∧ flatV x = true ∧ xs.all flatV = true ∧ P (inV x xs) := by
  unfold inR at h
  split at h
  · rename_i z
    obtain ⟨c, rfl, p⟩ := h
    cases hx; cases hy
    exact .inl ⟨z, c, rfl, rfl, p⟩
  · obtain ⟨ys, hs, f, g, p⟩ := h
    obtain ⟨a, vs, rfl, ha, hv⟩ := sq_get w hy hs
    refine .inr ⟨a, vs, rfl, ?_, flat_V hx f, flats_V hv g, by rw [inV_D hx f hv g]; exact p⟩
    rcases ha with ha | ha
    · exact .inl (SqL.of ha)
    · exact .inr (Or.inl ha)
instance op_in1 {K : PySem.W.Frag} : OpD (rInU K) rIn1 := ⟨fun S M H x y dx dy P Q w hx hy h k => by
  rcases inR_go (K := K) w hx hy h with ⟨z, c, rfl, rfl, p⟩ | ⟨a, xs, rfl, h1, h2, h3, p⟩
  · exact ⟨c, rfl, k _ S M _ H p .refl w (.bl _)⟩
  · exact ⟨xs, h1, h2, h3, k _ S M _ H p .refl w (.bl _)⟩⟩
instance op_nin1 {K : PySem.W.Frag} : OpD (rNinU K) rNin1 := ⟨fun S M H x y dx dy P Q w hx hy h k => by
  rcases inR_go (K := K) w hx hy h with ⟨z, c, rfl, rfl, p⟩ | ⟨a, xs, rfl, h1, h2, h3, p⟩
  · exact ⟨c, rfl, k _ S M _ H p .refl w (.bl _)⟩
  · exact ⟨xs, h1, h2, h3, k _ S M _ H p .refl w (.bl _)⟩⟩
/-- in a tuple of texts that the module keeps -/
def rInKT (l : List Str) (a : Addr) (neg : Bool) : R2 := fun x y H Q => y = .ref a ∧ ∃ z, x = .str z ∧ Q (.bl (decide (z ∈ l) != neg)) H
def rInKT1 (l : List Str) (a : Addr) (neg : Bool) : DR := fun x y M P => y = .ptr a ∧ ∃ z, x = .str z ∧ P (.bl (decide (z ∈ l) != neg)) M
instance op_inKT1 {l : List Str} {a : Addr} {neg : Bool} : OpD (rInKT l a neg) (rInKT1 l a neg) := ⟨fun S M H x y dx dy P Q w hx hy h k => by
  obtain ⟨rfl, z, rfl, p⟩ := h
  cases hx; cases hy
  exact ⟨rfl, z, rfl, k _ S M _ H p .refl w (.bl _)⟩⟩
def rIx1 : DR := fun x y M P => match x, y with
  | .str z, .int i => ∃ c, z.length ≤ sizeLine ∧ atI (cd z) i = some c ∧ P (.str (one c)) M
  | x, .int i => ∃ xs d, isSq M x xs ∧ atI xs i = some d ∧ P d M
  | _, _ => False
theorem at_dt {S : Addr → Prop} {H : Hp} {vs : List V} {ds : List D} (h : DtA S H vs ds) {i : Int} {d : D} (e : atI ds i = some d) : ∃ v, atI vs i = some v ∧ Dt S H v d := by
  unfold atI at e ⊢
  rw [h.length]
  cases hi : ixN ds.length i with
  | none => rw [hi] at e; cases e
  | some j =>
    rw [hi] at e
    exact h.get e
instance op_ix1 {K : PySem.W.Frag} : OpD (rIxU K) rIx1 := ⟨fun S M H x y dx dy P Q w hx hy h k => by
  unfold rIx1 at h
  split at h
  · obtain ⟨c, h1, h2, p⟩ := h
    cases hx; cases hy
    exact ⟨c, h1, h2, k _ S M _ H p .refl w (.str _)⟩
  · obtain ⟨xs, d, h1, h2, p⟩ := h
    cases hy
    obtain ⟨a, vs, rfl, ha, hv⟩ := sq_get w hx h1
    obtain ⟨v, e, hd⟩ := at_dt hv h2
    refine ⟨vs, v, ?_, e, k _ S M _ H p .refl w hd⟩
    rcases ha with ha | ha
    · exact .inl (SqL.of ha)
    · exact .inr (Or.inl ha)
  · exact h.elim⟩
theorem dtA_rep {S : Addr → Prop} {H : Hp} {vs : List V} {ds : List D} (h : DtA S H vs ds) : ∀ n, DtA S H (List.replicate n vs).flatten (List.replicate n ds).flatten
  | 0 => .nil
  | n + 1 => by
    rw [List.replicate_succ, List.replicate_succ, List.flatten_cons, List.flatten_cons]
    exact h.append (dtA_rep h n)
def rRep1 : DR := fun x y M P => ∃ xs k, isLs M x xs ∧ y = .int k ∧ -(2 ^ 63) ≤ k ∧ k < 2 ^ 63 ∧ xs.length * k.toNat ≤ sizeLine ∧ P (.lst (List.replicate k.toNat xs).flatten) M
instance op_rep1 : OpD rRep rRep1 := ⟨fun S M H x y dx dy P Q w hx hy h k => by
  obtain ⟨xs, j, h1, rfl, h2, h3, h4, p⟩ := h
  cases hy
  obtain ⟨a, vs, rfl, ha, hv⟩ := ls_get w hx h1
  exact ⟨a, j, vs, rfl, rfl, ha, h2, h3, by rw [hv.length]; exact h4, fun q nq => k _ S M _ _ p (.new nq) (w.new nq) (.lst (w.ns nq) upd_same ((dtA_rep hv _).sm (Same.new nq)))⟩⟩
end V
namespace V
open PySem PySem.Spec PyProof.Rows L2 U StX
def cutG {α : Type} (xs : List α) (lo hi : Option Int) : List α := (xs.drop (HT.sIx xs.length 0 lo)).take (HT.sIx xs.length xs.length hi - HT.sIx xs.length 0 lo)
def rSlZ (K : PySem.W.Frag) : V → Option Int → Option Int → Hp → VK → Prop := fun x lo hi H Q => match x with
  | .str z => z.length ≤ sizeLine ∧ Q (.str (cutS z lo hi)) H
  | x => rSlA K x lo hi H Q ∨ rSlL K x lo hi H Q
abbrev DO := Dl → Mem → (Option Int → Mem → Prop) → Prop
class PuO (t : TO) (dt : outParam DO) : Prop where
  run : ∀ S M σ δ H (P : Option Int → Mem → Prop) (Q : Option Int → Hp → Prop), Wo S M H → En S H σ δ → dt δ M P → (∀ o S' M' H', P o M' → Step S M H S' M' H' → Wo S' M' H' → Q o H') → t σ H Q
def dNoPart : DO := fun _ M P => P none M
def dPart (a : DE) : DO := fun δ M P => a δ M fun x M1 => ∃ i, x = .int i ∧ P (some i) M1
instance pu_noPart : PuO tNoPart dNoPart := ⟨fun S M σ δ H P Q w e h k => k none S M H h .refl w⟩
instance pu_part {ta : TE} {da : DE} [A : PuE ta da] : PuO (tPart ta) (dPart da) := ⟨fun S M σ δ H P Q w e h k =>
  A.run S M σ δ H _ _ w e h fun d S1 M1 v H1 p1 t1 w1 h1 => by
    obtain ⟨i, rfl, p1⟩ := p1
    cases h1
    exact ⟨i, rfl, k _ S1 M1 H1 p1 t1 w1⟩⟩
def rSl1 (x : D) (lo hi : Option Int) (M : Mem) (P : QD) : Prop := match x with
  | .str z => z.length ≤ sizeLine ∧ P (.str (cutS z lo hi)) M
  | .tup xs => P (.tup (cutG xs lo hi)) M
  | x => ∃ xs, isLs M x xs ∧ P (.lst (cutG xs lo hi)) M
def dSl (a : DE) (l h : DO) : DE := fun δ M P => a δ M fun x M1 => l δ M1 fun lo M2 => h δ M2 fun hi M3 => rSl1 x lo hi M3 P
theorem dtA_cut {S : Addr → Prop} {H : Hp} {vs : List V} {ds : List D} (h : DtA S H vs ds) (lo hi : Option Int) : DtA S H (cutV vs lo hi) (cutG ds lo hi) := by
  unfold cutV cutG
  rw [h.length]
  exact (h.drop _).take _
theorem cutG_whole {α : Type} {xs : List α} {lo hi : Option Int} (h : HT.sIx xs.length 0 lo = 0 ∧ HT.sIx xs.length xs.length hi = xs.length) : cutG xs lo hi = xs := by
  unfold cutG
  rw [h.1, h.2, List.drop_zero, Nat.sub_zero, List.take_length]
instance pu_sl {K : PySem.W.Frag} {ta : TE} {tl th : TO} {da : DE} {dl dh : DO} [A : PuE ta da] [B : PuO tl dl] [C : PuO th dh] : PuE (tSl (rSlZ K) ta tl th) (dSl da dl dh) := ⟨fun S M σ δ H P Q w e h k =>
  A.run S M σ δ H _ _ w e h fun d S1 M1 v H1 p1 t1 w1 h1 =>
    B.run S1 M1 σ δ H1 _ _ w1 (e.step w t1) p1 fun lo S2 M2 H2 p2 t2 w2 =>
      C.run S2 M2 σ δ H2 _ _ w2 (e.step w (t1.trans t2)) p2 fun hi S3 M3 H3 p3 t3 w3 => by
        have h3 := dt_step w1 (t2.trans t3) _ h1
        have k3 := k.go ((t1.trans t2).trans t3)
        unfold rSl1 at p3
        split at p3
        · cases h3
          exact ⟨p3.1, k3 _ S3 M3 _ H3 p3.2 .refl w3 (.str _)⟩
        · rename_i xs
          cases h3 with
          | @tup a vs _ n ha hs =>
            have el := hs.length
            refine .inl ⟨a, vs, rfl, SqT.of ha, fun c => ?_, fun c p np => ?_⟩
            · rw [el] at c
              rw [cutG_whole c] at p3
              exact k3 _ S3 M3 _ H3 p3 .refl w3 (.tup n ha hs)
            · exact k3 _ S3 M3 _ _ p3 (.new np) (w3.new np) (.tup (w3.ns np) upd_same ((dtA_cut hs lo hi).sm (Same.new np)))
        · obtain ⟨xs, h4, p3⟩ := p3
          obtain ⟨a, vs, rfl, ha, hs⟩ := ls_get w3 h3 h4
          exact .inr ⟨a, vs, rfl, SqL.of ha, fun p np => k3 _ S3 M3 _ _ p3 (.new np) (w3.new np) (.lst (w3.ns np) upd_same ((dtA_cut hs lo hi).sm (Same.new np)))⟩⟩
def dRevT (a : DE) : DE := fun δ M P => a δ M fun x M1 => ∃ xs, x = .tup xs ∧ P (.tup xs.reverse) M1
def dRevL (a : DE) : DE := fun δ M P => a δ M fun x M1 => ∃ xs, isLs M1 x xs ∧ P (.lst xs.reverse) M1
instance pu_revL {K : PySem.W.Frag} {ta : TE} {da : DE} [A : PuE ta da] : PuE (tRevL K ta) (dRevL da) := ⟨fun S M σ δ H P Q w e h k =>
  A.run S M σ δ H _ _ w e h fun d S1 M1 v H1 p1 t1 w1 h1 => by
    obtain ⟨xs, h2, p1⟩ := p1
    obtain ⟨a, vs, rfl, ha, hs⟩ := ls_get w1 h1 h2
    exact ⟨a, vs, rfl, SqL.of ha, fun p np => k _ S1 M1 _ _ p1 (t1.trans (.new np)) (w1.new np) (.lst (w1.ns np) upd_same (hs.reverse.sm (Same.new np)))⟩⟩
def lkD : List Str → List D → Str → Option D
  | n :: ns, d :: ds, f => if f = n then some d else lkD ns ds f
  | _, _, _ => none
theorem lk_get {S : Addr → Prop} {H : Hp} {f : Str} {d : D} : ∀ {fs : List (Str × V)} {ns : List Str} {ds : List D}, fs.map (·.1) = ns → DtA S H (fs.map (·.2)) ds → lkD ns ds f = some d → ∃ v, fs.lookup f = some v ∧ Dt S H v d
  | [], [], [], _, _, h => by cases h
  | (n, v) :: fs, m :: ns, d' :: ds, e, .cons h1 t, h => by
    rw [List.map_cons, List.cons.injEq] at e
    obtain ⟨rfl, e⟩ := e
    unfold lkD at h
    by_cases c : f = n
    · rw [if_pos c] at h
      cases h
      refine ⟨v, ?_, h1⟩
      subst c
      simp
    · rw [if_neg c] at h
      obtain ⟨u, h2, h3⟩ := lk_get e t h
      refine ⟨u, ?_, h3⟩
      rw [List.lookup_cons]
      have : (f == n) = false := by simpa using c
      simp only [this]
      exact h2
def putD (f : Str) (d : D) : List (Str × D) → List (Str × D)
  | [] => [(f, d)]
  | (n, e) :: r => if n = f then (n, d) :: r else (n, e) :: putD f d r
/-- an instance, still or changing -/
def isIn (M : Mem) (x : D) (C : Addr) (ns : List Str) (ds : List D) : Prop := x = .ins C ns ds ∨ ∃ a fs, x = .ptr a ∧ M a = some (.ins C fs) ∧ ns = fs.map (·.1) ∧ ds = fs.map (·.2)
theorem in_get {S : Addr → Prop} {M : Mem} {H : Hp} (w : Wo S M H) {v : V} {x : D} {C : Addr} {ns : List Str} {ds : List D} (h : Dt S H v x) (e : isIn M x C ns ds) : ∃ a dx fs, v = .ref a ∧ H a = some (.ins C dx fs) ∧ fs.map (·.1) = ns ∧ DtA S H (fs.map (·.2)) ds := by
  rcases e with rfl | ⟨a, fs, rfl, e, rfl, rfl⟩
  · cases h with
    | ins n ha hn hs => exact ⟨_, _, _, rfl, ha, hn, hs⟩
  · cases h
    obtain ⟨_, dx, gs, h1, h2, h3⟩ := w.mem a _ e
    exact ⟨a, dx, gs, rfl, h1, h2, h3⟩
theorem lk_of {f : Str} {d : D} : ∀ {ns : List Str} {ds : List D} {k : Nat}, ns.Nodup → ns[k]? = some f → ds[k]? = some d → lkD ns ds f = some d
  | [], _, k, _, h, _ => by simp at h
  | n :: ns, [], k, _, _, h => by simp at h
  | n :: ns, e :: ds, 0, nd, h, h2 => by
    simp at h h2
    subst h
    subst h2
    unfold lkD
    rw [if_pos rfl]
  | n :: ns, e :: ds, k + 1, nd, h, h2 => by
    rw [List.getElem?_cons_succ] at h h2
    have hn := List.nodup_cons.mp nd
    have : f ≠ n := fun z => hn.1 (by rw [← z]; exact List.mem_of_getElem? h)
    unfold lkD
    rw [if_neg this]
    exact lk_of hn.2 h h2
def rFld1 (K : PySem.W.Frag) (f : Str) (x : D) (M : Mem) (P : QD) : Prop := ∃ C ns ds d, isIn M x C ns ds ∧ Cls K C ∧ NoAttr K C f ∧ (∃ k : Nat, ns.Nodup ∧ ns[k]? = some f ∧ ds[k]? = some d) ∧ P d M
def dFld (K : PySem.W.Frag) (a : DE) (f : Str) : DE := fun δ M P => a δ M fun x M1 => rFld1 K f x M1 P
instance pu_fld {K : PySem.W.Frag} {ta : TE} {da : DE} {f : Str} [A : PuE ta da] : PuE (tFld K ta f) (dFld K da f) := ⟨fun S M σ δ H P Q w e h k =>
  A.run S M σ δ H _ _ w e h fun d S1 M1 v H1 p1 t1 w1 h1 => by
    obtain ⟨C, ns, ds, d, h2, c, n, ⟨_, l1, l2, l3⟩, p1⟩ := p1
    obtain ⟨a, dx, fs, rfl, ha, hn, hs⟩ := in_get w1 h1 h2
    obtain ⟨v, hv, hd⟩ := lk_get hn hs (lk_of l1 l2 l3)
    exact ⟨a, C, dx, fs, v, rfl, ha, c, n, hv, k _ S1 M1 _ H1 p1 t1 w1 hd⟩⟩
def lenR (M : Mem) (d : D) (P : Int → Prop) : Prop := match d with
  | .str z => z.length ≤ sizeLine ∧ P z.length
  | x => ∃ xs, isSq M x xs ∧ P xs.length
def rLen1 : DC := fun ds M P => ∃ d, ds = [d] ∧ lenR M d fun i => P (.int i) M
instance cb_len {K : PySem.W.Frag} : CbD (rLenU K) rLen1 := ⟨fun S M H vs ds P Q w hv h k => by
  obtain ⟨d, rfl, h⟩ := h
  match hv with
  | .cons h1 .nil =>
    unfold V.lenR at h
    split at h
    · cases h1
      exact ⟨h.1, k _ S M _ H h.2 .refl w (.int _)⟩
    · obtain ⟨xs, h2, p⟩ := h
      obtain ⟨a, us, rfl, ha, hs⟩ := sq_get w h1 h2
      refine ⟨us, ?_, ?_⟩
      · rcases ha with ha | ha
        · exact .inl (SqL.of ha)
        · exact .inr (Or.inl ha)
      · rw [hs.length]
        exact k _ S M _ H p .refl w (.int _)⟩
def rAll1 : DC := fun ds M P => ∃ (x : D) (bs : List Bool), ds = [x] ∧ isLs M x (bs.map D.bl) ∧ P (.bl (bs.all id)) M
def rAny1 : DC := fun ds M P => ∃ (x : D) (bs : List Bool), ds = [x] ∧ isLs M x (bs.map D.bl) ∧ P (.bl (bs.any id)) M
instance cb_all {K : PySem.W.Frag} : CbD (rAll K) rAll1 := ⟨fun S M H vs ds P Q w hv h k => by
  obtain ⟨x, bs, rfl, h2, p⟩ := h
  match hv with
  | .cons h1 .nil =>
    obtain ⟨a, us, rfl, ha, hs⟩ := ls_get w h1 h2
    have e := hs.bls_eq
    subst e
    exact ⟨a, bs, rfl, SqL.of ha, k _ S M _ H p .refl w (.bl _)⟩⟩
instance cb_any {K : PySem.W.Frag} : CbD (rAny K) rAny1 := ⟨fun S M H vs ds P Q w hv h k => by
  obtain ⟨x, bs, rfl, h2, p⟩ := h
  match hv with
  | .cons h1 .nil =>
    obtain ⟨a, us, rfl, ha, hs⟩ := ls_get w h1 h2
    have e := hs.bls_eq
    subst e
    exact ⟨a, bs, rfl, SqL.of ha, k _ S M _ H p .refl w (.bl _)⟩⟩
def rMax1 : DC := fun ds M P => ∃ (x : D) (ns : List Int), ds = [x] ∧ isLs M x (ns.map D.int) ∧ 0 < ns.length ∧ ∀ m, m ∈ ns → (∀ y, y ∈ ns → y ≤ m) → P (.int m) M
def rMin1 : DC := fun ds M P => ∃ (x : D) (ns : List Int), ds = [x] ∧ isLs M x (ns.map D.int) ∧ 0 < ns.length ∧ ∀ m, m ∈ ns → (∀ y, y ∈ ns → m ≤ y) → P (.int m) M
instance cb_max {K : PySem.W.Frag} : CbD (rMax K) rMax1 := ⟨fun S M H vs ds P Q w hv h k => by
  obtain ⟨x, ns, rfl, h2, hl, p⟩ := h
  match hv with
  | .cons h1 .nil =>
    obtain ⟨a, us, rfl, ha, hs⟩ := ls_get w h1 h2
    have e := hs.ints_eq
    subst e
    exact ⟨a, ns, rfl, SqL.of ha, hl, fun m hm hx => k _ S M _ H (p m hm hx) .refl w (.int _)⟩⟩
instance cb_min {K : PySem.W.Frag} : CbD (rMin K) rMin1 := ⟨fun S M H vs ds P Q w hv h k => by
  obtain ⟨x, ns, rfl, h2, hl, p⟩ := h
  match hv with
  | .cons h1 .nil =>
    obtain ⟨a, us, rfl, ha, hs⟩ := ls_get w h1 h2
    have e := hs.ints_eq
    subst e
    exact ⟨a, ns, rfl, SqL.of ha, hl, fun m hm hx => k _ S M _ H (p m hm hx) .refl w (.int _)⟩⟩
def rSum1 : DC := fun ds M P => ∃ (x : D) (ns : List Int), ds = [x] ∧ isLs M x (ns.map D.int) ∧ P (.int ns.sum) M
instance cb_sum {K : PySem.W.Frag} : CbD (rSum K) rSum1 := ⟨fun S M H vs ds P Q w hv h k => by
  obtain ⟨x, ns, rfl, h2, p⟩ := h
  match hv with
  | .cons h1 .nil =>
    obtain ⟨a, us, rfl, ha, hs⟩ := ls_get w h1 h2
    have e := hs.ints_eq
    subst e
    exact ⟨a, ns, rfl, SqL.of ha, k _ S M _ H p .refl w (.int _)⟩⟩
class VD1 (f : Int → V) (g : outParam (Int → D)) : Prop where
  run : ∀ S H i, Dt S H (f i) (g i)
instance vd1_int {f : Int → Int} : VD1 (fun i => .int (f i)) (fun i => .int (f i)) := ⟨fun _ _ _ => .int _⟩
def rI11 (g : Int → D) : DC := fun ds M P => ∃ i, ds = [.int i] ∧ P (g i) M
def rI21 (g : Int → Int → D) : DC := fun ds M P => ∃ i j, ds = [.int i, .int j] ∧ P (g i j) M
instance cb_I1 {f : Int → V} {g : Int → D} [F : VD1 f g] : CbD (U.rI1 f) (rI11 g) := ⟨fun S M H vs ds P Q w hv h k => by
  obtain ⟨i, rfl, p⟩ := h
  match hv with
  | .cons h1 .nil =>
    cases h1
    exact k _ S M _ H p .refl w (F.run S H i)⟩
instance cb_I2 {f : Int → Int → V} {g : Int → Int → D} [F : VD f g] : CbD (rI2 f) (rI21 g) := ⟨fun S M H vs ds P Q w hv h k => by
  obtain ⟨i, j, rfl, p⟩ := h
  match hv with
  | .cons h1 (.cons h2 .nil) =>
    cases h1
    cases h2
    exact k _ S M _ H p .refl w (F.run S H i j)⟩
instance cb_int1 : CbD rInt1 (rI11 fun i => .int i) := ⟨fun S M H vs ds P Q w hv h k => by
  obtain ⟨i, rfl, p⟩ := h
  match hv with
  | .cons h1 .nil =>
    cases h1
    exact k _ S M _ H p .refl w (.int i)⟩
def dNeg (a : DE) : DE := fun δ M P => a δ M fun x M1 => ∃ i, x = .int i ∧ P (.int (-i)) M1
instance pu_neg {ta : TE} {da : DE} [A : PuE ta da] : PuE (tUn (rU fun i => .int (-i)) ta) (dNeg da) := ⟨fun S M σ δ H P Q w e h k =>
  A.run S M σ δ H _ _ w e h fun d S1 M1 v H1 p1 t1 w1 h1 => by
    obtain ⟨i, rfl, p1⟩ := p1
    cases h1
    exact ⟨i, rfl, k _ S1 M1 _ H1 p1 t1 w1 (.int _)⟩⟩
def listR (M : Mem) (d : D) (P : List D → Prop) : Prop := match d with
  | .str z => z.length ≤ sizeLine ∧ P ((cd z).map sgn)
  | x => ∃ xs, isSq M x xs ∧ P xs
def rList1 : DC := fun ds M P => ∃ d, ds = [d] ∧ listR M d fun xs => P (.lst xs) M
instance cb_list {K : PySem.W.Frag} : CbD (rListU K) rList1 := ⟨fun S M H vs ds P Q w hv h k => by
  obtain ⟨d, rfl, h⟩ := h
  match hv with
  | .cons h1 .nil =>
    unfold listR at h
    split at h
    · cases h1
      exact ⟨h.1, fun l nl => k _ S M _ _ h.2 (.new nl) (w.new nl) (.lst (w.ns nl) upd_same ((dt_signsV (S := S) (H := H) _).sm (Same.new nl)))⟩
    · obtain ⟨xs, h2, p⟩ := h
      obtain ⟨a, us, rfl, ha, hs⟩ := sq_get w h1 h2
      refine ⟨us, ?_, fun l nl => k _ S M _ _ p (.new nl) (w.new nl) (.lst (w.ns nl) upd_same (hs.sm (Same.new nl)))⟩
      rcases ha with ha | ha
      · exact .inl (SqL.of ha)
      · exact .inr (Or.inl ha)⟩
/-- str(n) -/
def rStr1 : List V → Hp → VK → Prop := fun xs H Q => ∃ i, xs = [.int i] ∧ i.natAbs.log2 < 1920 ∧ Q (.str (toString i)) H
def rStrD : DC := fun ds M P => ∃ i, ds = [.int i] ∧ i.natAbs.log2 < 1920 ∧ P (.str (Str.ofString (toString i))) M
instance cb_str : CbD rStr1 rStrD := ⟨fun S M H vs ds P Q w hv h k => by
  obtain ⟨i, rfl, hl, p⟩ := h
  match hv with
  | .cons h1 .nil =>
    cases h1
    exact ⟨i, rfl, hl, k _ S M _ H p .refl w (.str _)⟩⟩
/-- tuple(x) -/
def kTup1 (x : D) (M : Mem) (P : QD) : Prop := ∃ xs, (x = .lst xs ∨ x = .tup xs ∨ ∃ a, x = .ptr a ∧ M a = some (.lst xs)) ∧ P (.tup xs) M
instance pu_tupOf {K : PySem.W.Frag} {ta : TE} {da : DE} [A : PuE ta da] : PuE (tThen ta (kTup K)) (dThen da kTup1) := ⟨fun S M σ δ H P Q w e h k =>
  A.run S M σ δ H _ _ w e h fun d S1 M1 v H1 p1 t1 w1 h1 => by
    obtain ⟨xs, h2, p1⟩ := p1
    rcases h2 with rfl | rfl | ⟨a, rfl, h2⟩
    · cases h1 with
      | lst n ha hs => exact .inl ⟨_, _, rfl, SqL.of ha, fun p np => k _ S1 M1 _ _ p1 (t1.trans (.new np)) (w1.new np) (.tup (w1.ns np) upd_same (hs.sm (Same.new np)))⟩
    · cases h1 with
      | tup n ha hs => exact .inr ⟨_, _, rfl, SqT.of ha, k _ S1 M1 _ _ p1 t1 w1 (.tup n ha hs)⟩
    · cases h1
      obtain ⟨_, vs, ha, hs⟩ := w1.mem a _ h2
      exact .inl ⟨_, _, rfl, SqL.of ha, fun p np => k _ S1 M1 _ _ p1 (t1.trans (.new np)) (w1.new np) (.tup (w1.ns np) upd_same (hs.sm (Same.new np)))⟩⟩
/-- list(range(n)) -/
abbrev TR := L2.St → Hp → (Int → Int → Hp → Prop) → Prop
abbrev DRg := Dl → Mem → (Int → Int → Mem → Prop) → Prop
class PuRg (t : TR) (dt : outParam DRg) : Prop where
  run : ∀ S M σ δ H (P : Int → Int → Mem → Prop) (Q : Int → Int → Hp → Prop), Wo S M H → En S H σ δ → dt δ M P → (∀ i j S' M' H', P i j M' → Step S M H S' M' H' → Wo S' M' H' → Q i j H') → t σ H Q
def dRg1 (a : DE) : DRg := fun δ M P => a δ M fun x M1 => ∃ n, x = .int n ∧ P 0 n M1
def dRg2 (a b : DE) : DRg := fun δ M P => a δ M fun x M1 => b δ M1 fun y M2 => ∃ i j, x = .int i ∧ y = .int j ∧ P i j M2
instance pu_rg1 {ta : TE} {da : DE} [A : PuE ta da] : PuRg (tRg1 ta) (dRg1 da) := ⟨fun S M σ δ H P Q w e h k =>
  A.run S M σ δ H _ _ w e h fun d S1 M1 v H1 p1 t1 w1 h1 => by
    obtain ⟨i, rfl, p1⟩ := p1
    cases h1
    exact ⟨i, rfl, k _ _ S1 M1 H1 p1 t1 w1⟩⟩
instance pu_rg2 {ta tb : TE} {da db : DE} [A : PuE ta da] [B : PuE tb db] : PuRg (tRg2 ta tb) (dRg2 da db) := ⟨fun S M σ δ H P Q w e h k =>
  A.run S M σ δ H _ _ w e h fun d S1 M1 v H1 p1 t1 w1 h1 =>
    B.run S1 M1 σ δ H1 _ _ w1 (e.step w t1) p1 fun d2 S2 M2 v2 H2 p2 t2 w2 h2 => by
      obtain ⟨i, j, rfl, rfl, p2⟩ := p2
      cases h1
      cases h2
      exact ⟨i, j, rfl, rfl, k _ _ S2 M2 H2 p2 (t1.trans t2) w2⟩⟩
def rgD (i j : Int) : List D := (List.range (j - i).toNat).map fun k => D.int (i + (k : Nat))
theorem dt_rgD {S : Addr → Prop} {H : Hp} (i j : Int) : DtA S H (rgV i j) (rgD i j) := by
  unfold rgV rgD
  generalize (j - i).toNat = n
  have : ∀ l : List Nat, DtA S H (l.map fun k => V.int (i + (k : Nat))) (l.map fun k => D.int (i + (k : Nat))) := fun l => by
    induction l with
    | nil => exact .nil
    | cons a l ih => exact .cons (.int _) ih
  exact this _
def dLstRg (t : DRg) : DE := fun δ M P => t δ M fun a b M1 => RgOk a b ∧ P (.lst (rgD a b)) M1
instance pu_lstRg {t : TR} {dt : DRg} [A : PuRg t dt] : PuE (tLstRg t) (dLstRg dt) := ⟨fun S M σ δ H P Q w e h k =>
  A.run S M σ δ H _ _ w e h fun i j S1 M1 H1 p1 t1 w1 => ⟨p1.1, fun p np => k _ S1 M1 _ _ p1.2 (t1.trans (.new np)) (w1.new np) (.lst (w1.ns np) upd_same ((dt_rgD i j).sm (Same.new np)))⟩⟩
/-- isinstance(x, C): what is known of x's class -/
inductive TyD (K : PySem.W.Frag) (M : Mem) : D → Value → Prop where
  | non : TyD K M .non (.type "NoneType")
  | bl (b : Bool) : TyD K M (.bl b) (.type "bool")
  | int (i : Int) : TyD K M (.int i) (.type "int")
  | str (x : Str) : TyD K M (.str x) (.type "str")
  | lst (xs : List D) : TyD K M (.lst xs) (.type "list")
  | tup (xs : List D) : TyD K M (.tup xs) (.type "tuple")
  | ftp (xs : List D) : TyD K M (.ftp xs) (.type "tuple")
  | emp (a : Addr) : TyD K M (.opq a (.dK [])) (.type "dict")
  | mlst {a : Addr} {xs : List D} (h : M a = some (.lst xs)) : TyD K M (.ptr a) (.type "list")
  | mdic {a : Addr} {xs : List (Key × D)} (h : M a = some (.dic xs)) : TyD K M (.ptr a) (.type "dict")
  | ins {C : Addr} {x : D} {ns : List Str} {xs : List D} (h : isIn M x C ns xs) (c : C8.InsC K C) : TyD K M x (.ref C)
def rIsi1 (K : PySem.W.Frag) : DC := fun ds M P => match ds with
  | [x, .ty n] => ∃ t b, TyD K M x t ∧ PySem.W.kitOne K t (.type n) = some b ∧ P (.bl b) M
  | [x, .ptr C] => ∃ t b, TyD K M x t ∧ PySem.W.kitOne K t (.ref C) = some b ∧ P (.bl b) M
  | _ => False
theorem tyD_go {S : Addr → Prop} {M : Mem} {H : Hp} {K : PySem.W.Frag} (w : Wo S M H) {v : V} {x : D} {t : Value} (h : Dt S H v x) (ty : TyD K M x t) : TyX K H v t := by
  cases ty with
  | non => cases h; exact .base .non
  | bl b => cases h; exact .base (.bl _)
  | int b => cases h; exact .base (.int _)
  | str b => cases h; exact .base (.str _)
  | lst xs => cases h with
    | lst n ha hs => exact .base (.lst ha)
  | tup xs => cases h with
    | tup n ha hs => exact .base (.tup ha)
  | ftp xs => cases h with
    | ftp n ha hd hs => exact .fTuple ha
  | emp a => cases h with
    | opq n ha => exact .base (.dK ha)
  | mlst hm =>
    cases h
    obtain ⟨_, vs, ha, _⟩ := w.mem _ _ hm
    exact .base (.lst ha)
  | mdic hm =>
    cases h
    obtain ⟨_, vs, ha, _⟩ := w.mem _ _ hm
    exact .base (.dK ha)
  | ins hi c =>
    obtain ⟨a, dx, fs, rfl, ha, _, _⟩ := in_get w h hi
    exact .base (.ins ha c.cl c.ha c.hn c.htk c.hm)
instance cb_isi {K : PySem.W.Frag} : CbD (rIsi K) (rIsi1 K) := ⟨fun S M H vs ds P Q w hv h k => by
  unfold rIsi1 at h
  split at h
  · obtain ⟨t, b, ty, e, p⟩ := h
    match hv with
    | .cons h1 (.cons h2 .nil) =>
      cases h2
      exact ⟨_, _, t, _, b, rfl, .ty _, tyD_go w h1 ty, e, k _ S M _ H p .refl w (.bl _)⟩
  · obtain ⟨t, b, ty, e, p⟩ := h
    match hv with
    | .cons h1 (.cons h2 .nil) =>
      cases h2
      exact ⟨_, _, t, _, b, rfl, .own _, tyD_go w h1 ty, e, k _ S M _ H p .refl w (.bl _)⟩
  · exact h.elim⟩
/-- repr -/
def rRepr1 : DC := fun ds M P => ∃ d p, ds = [d] ∧ D.py (vw M d) = some p ∧ PyData.showable p = true ∧ PyData.hasDict p = false ∧ PyData.depth p ≤ 40 ∧ (PyData.shown p).length ≤ sizeLine ∧ P (.str (PyData.shown p)) M
instance cb_repr {K : PySem.W.Frag} : CbD (rRepr K) rRepr1 := ⟨fun S M H vs ds P Q w hv h k => by
  obtain ⟨d, p, rfl, e, h1, h2, h3, h4, q⟩ := h
  match hv with
  | .cons h0 .nil => exact ⟨_, p, rfl, dt_vw w h0 e, h1, h2, h3, h4, k _ S M _ H q .refl w (.str _)⟩⟩
/-- sep.join(xs) -/
def rJoin1 (x y : D) (M : Mem) (P : QD) : Prop := ∃ a, ∃ ys : List Str, x = .str a ∧ isSq M y (ys.map D.str) ∧ (ys.map (·.length)).sum + ys.length * a.length ≤ 16777216 ∧ P (.str (Txt.join a ys)) M
def dJoin1 (a b : DE) : DE := fun δ M P => a δ M fun x M1 => (∃ z, x = .str z) ∧ b δ M1 fun y M2 => rJoin1 x y M2 P
instance pu_join {K : PySem.W.Frag} {ta tb : TE} {da db : DE} [A : PuE ta da] [B : PuE tb db] : PuE (tM1 (rJoin K) ta tb) (dJoin1 da db) := ⟨fun S M σ δ H P Q w e h k =>
  A.run S M σ δ H _ _ w e h fun d S1 M1 v H1 p1 t1 w1 h1 => by
    obtain ⟨⟨z, rfl⟩, p1⟩ := p1
    cases h1
    refine ⟨⟨z, rfl⟩, B.run S1 M1 σ δ H1 _ _ w1 (e.step w t1) p1 fun d2 S2 M2 v2 H2 p2 t2 w2 h2 => ?_⟩
    obtain ⟨a, ys, ea, hy, hl, p2⟩ := p2
    cases ea
    obtain ⟨p, vs, rfl, ha, hs⟩ := sq_get w2 h2 hy
    have es := hs.strs_eq
    subst es
    refine ⟨z, p, ys, rfl, rfl, ?_, hl, k _ S2 M2 _ H2 p2 (t1.trans t2) w2 (.str _)⟩
    rcases ha with ha | ha
    · exact .inl (SqL.of ha)
    · exact .inr (Or.inl ha)⟩
def dAppend (a : DE) (b : DA) : DE := fun δ M P => a δ M fun x M1 => ∃ l, x = .ptr l ∧ (∃ xs, M1 l = some (.lst xs)) ∧ b δ M1 fun ys M2 => ∃ xs y, ys = [y] ∧ M2 l = some (.lst xs) ∧ xs.length < sizeLine ∧ P .non (mset M2 l (.lst (xs ++ [y])))
instance pu_append {K : PySem.W.Frag} {ta : TE} {tb : TA} {da : DE} {db : DA} [A : PuE ta da] [B : PuA tb db] : PuE (tBM K "list" rAppend ta tb) (dAppend da db) := ⟨fun S M σ δ H P Q w e h k =>
  A.run S M σ δ H _ _ w e h fun d S1 M1 v H1 p1 t1 w1 h1 => by
    obtain ⟨l, rfl, ⟨xs, hx⟩, p1⟩ := p1
    cases h1
    obtain ⟨_, vs, ha, hs⟩ := w1.mem l _ hx
    refine ⟨.inl ⟨rfl, _, SqL.of ha⟩, B.run S1 M1 σ δ H1 _ _ w1 (e.step w t1) p1 fun d2 S2 M2 v2 H2 p2 t2 w2 h2 => ?_⟩
    obtain ⟨xs, y, rfl, hm, hz, p2⟩ := p2
    obtain ⟨sl, vs, ha, hs⟩ := w2.mem l _ hm
    match v2, h2 with
    | [u], .cons h2 .nil =>
      have ex : Ext S2 H2 (upd H2 l (.lst (vs ++ [u]))) := Ext.mut (Ext.refl _) sl
      exact ⟨l, vs, _, rfl, rfl, ha, by rw [hs.length]; exact hz, k _ _ _ _ _ p2 ((t1.trans t2).trans (.change hm)) (w2.change hm ⟨_, upd_same, (hs.snoc h2).go ex⟩) .non⟩⟩
def dFmt (a : DE) : DE := fun δ M P => a δ M fun x M1 => match x with
  | .str y => y.length ≤ sizeLine ∧ P (.str y) M1
  | .int i => i.natAbs.log2 < 1920 ∧ P (.str (Str.ofString (toString i))) M1
  | _ => False
instance pu_fmt {ta : TE} {da : DE} [A : PuE ta da] : PuE (tFmt ta) (dFmt da) := ⟨fun S M σ δ H P Q w e h k =>
  A.run S M σ δ H _ _ w e h fun d S1 M1 v H1 p1 t1 w1 h1 => by
    split at p1
    · cases h1
      exact .inl ⟨_, rfl, p1.1, k _ S1 M1 _ H1 p1.2 t1 w1 (.str _)⟩
    · cases h1
      exact .inr ⟨_, rfl, p1.1, k _ S1 M1 _ H1 p1.2 t1 w1 (.str _)⟩
    · exact p1.elim⟩
def tJoin (ts : List TE) : TE := fun σ H Q => tJs ts Str.empty σ H fun out H1 => Q (.str out) H1
def dJs : List DE → Str → Dl → Mem → (Str → Mem → Prop) → Prop
  | [], acc, _, M, P => P acc M
  | d :: ds, acc, δ, M, P => d δ M fun x M1 => ∃ y : Str, x = .str y ∧ (acc ++ y).length ≤ sizeLine ∧ dJs ds (acc ++ y) δ M1 P
class PuJ (ts : List TE) (ds : outParam (List DE)) : Prop where
  run : ∀ S M σ δ H acc (P : Str → Mem → Prop) (Q : Str → Hp → Prop), Wo S M H → En S H σ δ → dJs ds acc δ M P → (∀ o S' M' H', P o M' → Step S M H S' M' H' → Wo S' M' H' → Q o H') → tJs ts acc σ H Q
instance pu_j0 : PuJ [] [] := ⟨fun S M σ δ H acc P Q w e h k => k _ S M H h .refl w⟩
instance pu_j1 {t : TE} {ts : List TE} {d : DE} {ds : List DE} [A : PuE t d] [B : PuJ ts ds] : PuJ (t :: ts) (d :: ds) := ⟨fun S M σ δ H acc P Q w e h k =>
  A.run S M σ δ H _ _ w e h fun d S1 M1 v H1 p1 t1 w1 h1 => by
    obtain ⟨y, rfl, hz, p1⟩ := p1
    cases h1
    exact ⟨y, rfl, hz, B.run S1 M1 σ δ H1 _ P Q w1 (e.step w t1) p1 fun o S2 M2 H2 p2 t2 w2 => k o S2 M2 H2 p2 (t1.trans t2) w2⟩⟩
def dJoin (ds : List DE) : DE := fun δ M P => dJs ds Str.empty δ M fun out M1 => P (.str out) M1
instance pu_joined {ts : List TE} {ds : List DE} [A : PuJ ts ds] : PuE (tJoin ts) (dJoin ds) := ⟨fun S M σ δ H P Q w e h k =>
  A.run S M σ δ H _ _ _ w e h fun o S1 M1 H1 p1 t1 w1 => k _ S1 M1 _ H1 p1 t1 w1 (.str o)⟩
end V
namespace V
open PySem PySem.Spec PyProof.Rows L2 U StX
abbrev QS := Dl → Mem → Prop
abbrev DG := D → Dl → Mem → QS → Prop
abbrev DGs := List D → Dl → Mem → QS → Prop
/-- only these slots are stored -/
def Onl (sl : List Nat) (σ σ' : L2.St) : Prop := ∀ vs : List Nat, (∀ i ∈ sl, i ∈ vs) → L2.wipe σ' vs = L2.wipe σ vs
class PuG (g : TG) (dg : outParam DG) (sl : outParam (List Nat)) : Prop where
  run : ∀ S M σ δ H v d (P : QS) (R : L2.St → Hp → Prop), Wo S M H → En S H σ δ → Dt S H v d → dg d δ M P → (∀ δ' S' M' σ' H', P δ' M' → Step S M H S' M' H' → Wo S' M' H' → En S' H' σ' δ' → Onl sl σ σ' → R σ' H') → g v σ H R
class PuGs (g : TGs) (dg : outParam DGs) (sl : outParam (List Nat)) : Prop where
  run : ∀ S M σ δ H v d (P : QS) (R : L2.St → Hp → Prop), Wo S M H → En S H σ δ → DtA S H v d → dg d δ M P → (∀ δ' S' M' σ' H', P δ' M' → Step S M H S' M' H' → Wo S' M' H' → En S' H' σ' δ' → Onl sl σ σ' → R σ' H') → g v σ H R
theorem wipe_set (σ : L2.St) (i : Nat) (o : Option V) : ∀ vs : List Nat, i ∈ vs → L2.wipe (σ.set i o) vs = L2.wipe σ vs
  | v :: vs, h => by
    unfold L2.wipe
    by_cases c : i ∈ vs
    · rw [wipe_set σ i o vs c]
    · have e : i = v := (List.mem_cons.mp h).elim id fun z => (c z).elim
      subst e
      have : ∀ vs : List Nat, i ∉ vs → L2.wipe (σ.set i o) vs = (L2.wipe σ vs).set i o := by
        intro vs
        induction vs with
        | nil => intro _; rfl
        | cons w ws ih =>
          intro n
          rw [List.mem_cons, not_or] at n
          unfold L2.wipe
          rw [ih n.2, List.set_comm _ _ n.1]
      rw [this vs c, List.set_set]
def dgN (i : Nat) : DG := fun d δ M P => P (δ.set i (some d)) M
instance pu_gName {i : Nat} : PuG (gName i) (dgN i) [i] := ⟨fun S M σ δ H v d P R w e h p k => k _ S M _ H p .refl w (e.set h) fun vs hv => wipe_set _ _ _ _ (hv i (List.mem_singleton.mpr rfl))⟩
def dgsNil : DGs := fun ds δ M P => ds = [] ∧ P δ M
def dgsCons (g : DG) (r : DGs) : DGs := fun ds δ M P => ∃ d es, ds = d :: es ∧ g d δ M fun δ1 M1 => r es δ1 M1 P
instance pu_gNil : PuGs gNil dgsNil [] := ⟨fun S M σ δ H v d P R w e h p k => by
  obtain ⟨rfl, p⟩ := p
  cases h
  exact ⟨rfl, k _ S M _ H p .refl w e fun _ _ => rfl⟩⟩
instance pu_gCons {g : TG} {gs : TGs} {dg : DG} {dgs : DGs} {s1 s2 : List Nat} [A : PuG g dg s1] [B : PuGs gs dgs s2] : PuGs (gCons g gs) (dgsCons dg dgs) (s1 ++ s2) := ⟨fun S M σ δ H v d P R w e h p k => by
  obtain ⟨x, xs, rfl, p⟩ := p
  cases h with
  | cons h1 h2 =>
    refine ⟨_, _, rfl, A.run S M σ δ H _ x _ _ w e h1 p fun δ1 S1 M1 σ1 H1 p1 t1 w1 e1 o1 => ?_⟩
    refine B.run S1 M1 σ1 δ1 H1 _ xs P _ w1 e1 (dtA_step w t1 _ h2) p1 fun δ2 S2 M2 σ2 H2 p2 t2 w2 e2 o2 => k δ2 S2 M2 σ2 H2 p2 (t1.trans t2) w2 e2 fun vs hv => ?_
    rw [o2 vs fun i hi => hv i (List.mem_append_right _ hi), o1 vs fun i hi => hv i (List.mem_append_left _ hi)]⟩
def dgT (n : Nat) (g : DGs) : DG := fun d δ M P => ∃ xs, d = .tup xs ∧ xs.length = n ∧ g xs δ M P
instance pu_gTup {K : PySem.W.Frag} {n : Nat} {gs : TGs} {dgs : DGs} {s : List Nat} [A : PuGs gs dgs s] : PuG (gTup K n gs) (dgT n dgs) s := ⟨fun S M σ δ H v d P R w e h p k => by
  obtain ⟨xs, rfl, hl, p⟩ := p
  cases h with
  | tup n ha hs => exact ⟨_, _, rfl, SqT.of ha, by rw [hs.length]; exact hl, A.run S M σ δ H _ xs P R w e hs p k⟩⟩
abbrev DS := QS → QD → QS → QS → QS
structure Lk (S : Addr → Prop) (M : Mem) (H : Hp) (nx : QS) (rt : QD) (bk ct : QS) (E : Ends) : Prop where
  nx : ∀ δ' S' M' σ' H', nx δ' M' → Step S M H S' M' H' → Wo S' M' H' → En S' H' σ' δ' → E.nx σ' H'
  rt : AtE S M H rt E.rt
  bk : ∀ δ' S' M' σ' H', bk δ' M' → Step S M H S' M' H' → Wo S' M' H' → En S' H' σ' δ' → E.bk σ' H'
  ct : ∀ δ' S' M' σ' H', ct δ' M' → Step S M H S' M' H' → Wo S' M' H' → En S' H' σ' δ' → E.ct σ' H'
theorem Lk.go {S S' : Addr → Prop} {M M' : Mem} {H H' : Hp} {nx : QS} {rt : QD} {bk ct : QS} {E : Ends} (l : Lk S M H nx rt bk ct E) (t : Step S M H S' M' H') : Lk S' M' H' nx rt bk ct E :=
  ⟨fun a b c d e p t2 w f => l.nx a b c d e p (t.trans t2) w f, l.rt.go t, fun a b c d e p t2 w f => l.bk a b c d e p (t.trans t2) w f, fun a b c d e p t2 w f => l.ct a b c d e p (t.trans t2) w f⟩
class PuS (t : TS) (dt : outParam DS) : Prop where
  run : ∀ S M σ δ H nx rt bk ct (E : Ends), Wo S M H → En S H σ δ → dt nx rt bk ct δ M → Lk S M H nx rt bk ct E → t E σ H
def sNext : DS := fun nx _ _ _ δ M => nx δ M
def sSeq (a b : DS) : DS := fun nx rt bk ct δ M => a (fun δ1 M1 => b nx rt bk ct δ1 M1) rt bk ct δ M
def sBreak : DS := fun _ _ bk _ δ M => bk δ M
def sCont : DS := fun _ _ _ ct δ M => ct δ M
def sDrop (a : DE) : DS := fun nx _ _ _ δ M => a δ M fun _ M1 => nx δ M1
def sRet (a : DE) : DS := fun _ rt _ _ δ M => a δ M rt
def sRetN : DS := fun _ rt _ _ _ M => rt .non M
def sIf (c : DT) (a b : DS) : DS := fun nx rt bk ct δ M => c δ M fun k M1 => if k = true then a nx rt bk ct δ M1 else b nx rt bk ct δ M1
def sNever : DS := fun _ _ _ _ _ _ => False
def sAsg (a : DE) (g : DG) : DS := fun nx _ _ _ δ M => a δ M fun x M1 => g x δ M1 nx
def sPar (i j : Nat) (t : DA) : DS := fun nx _ _ _ δ M => t δ M fun xs M1 => ∃ x y, xs = [x, y] ∧ nx ((δ.set i (some x)).set j (some y)) M1
section
variable {t u : TS} {dt du : DS} {ta : TE} {da : DE} {c : TT} {dc : DT} {g : TG} {dg : DG}
instance pu_next : PuS tNext sNext := ⟨fun S M σ δ H nx rt bk ct E w e h l => l.nx _ S M _ H h .refl w e⟩
instance pu_seq [A : PuS t dt] [B : PuS u du] : PuS (tSeq t u) (sSeq dt du) := ⟨fun S M σ δ H nx rt bk ct E w e h l =>
  A.run S M σ δ H _ _ _ _ _ w e h ⟨fun δ1 S1 M1 σ1 H1 p1 t1 w1 e1 => B.run S1 M1 σ1 δ1 H1 nx rt bk ct E w1 e1 p1 (l.go t1), l.rt, l.bk, l.ct⟩⟩
instance pu_break : PuS tBreak sBreak := ⟨fun S M σ δ H nx rt bk ct E w e h l => l.bk _ S M _ H h .refl w e⟩
instance pu_cont : PuS tCont sCont := ⟨fun S M σ δ H nx rt bk ct E w e h l => l.ct _ S M _ H h .refl w e⟩
instance pu_drop [A : PuE ta da] : PuS (tDrop ta) (sDrop da) := ⟨fun S M σ δ H nx rt bk ct E w e h l =>
  A.run S M σ δ H _ _ w e h fun d S1 M1 v H1 p1 t1 w1 h1 => l.nx _ S1 M1 _ H1 p1 t1 w1 (e.step w t1)⟩
instance pu_ret [A : PuE ta da] : PuS (tRet ta) (sRet da) := ⟨fun S M σ δ H nx rt bk ct E w e h l => A.run S M σ δ H _ _ w e h l.rt⟩
instance pu_retN : PuS tRetN sRetN := ⟨fun S M σ δ H nx rt bk ct E w e h l => l.rt _ S M _ H h .refl w .non⟩
instance pu_ifS [C : PuT c dc] [A : PuS t dt] [B : PuS u du] : PuS (tIfS c t u) (sIf dc dt du) := ⟨fun S M σ δ H nx rt bk ct E w e h l =>
  C.run S M σ δ H _ _ w e h fun b S1 M1 H1 p1 t1 w1 => by
    cases b with
    | true =>
      rw [if_pos rfl] at p1 ⊢
      exact A.run S1 M1 σ δ H1 nx rt bk ct E w1 (e.step w t1) p1 (l.go t1)
    | false =>
      rw [if_neg Bool.false_ne_true] at p1 ⊢
      exact B.run S1 M1 σ δ H1 nx rt bk ct E w1 (e.step w t1) p1 (l.go t1)⟩
instance pu_never : PuS tNever sNever := ⟨fun S M σ δ H nx rt bk ct E w e h l => h.elim⟩
instance pu_asg {sl : List Nat} [A : PuE ta da] [B : PuG g dg sl] : PuS (tAsg ta g) (sAsg da dg) := ⟨fun S M σ δ H nx rt bk ct E w e h l =>
  A.run S M σ δ H _ _ w e h fun d S1 M1 v H1 p1 t1 w1 h1 =>
    B.run S1 M1 σ δ H1 v d _ _ w1 (e.step w t1) h1 p1 fun δ2 S2 M2 σ2 H2 p2 t2 w2 e2 _ => l.nx δ2 S2 M2 σ2 H2 p2 (t1.trans t2) w2 e2⟩
instance pu_par {i j : Nat} {tt : TA} {dd : DA} [A : PuA tt dd] : PuS (tPar i j tt) (sPar i j dd) := ⟨fun S M σ δ H nx rt bk ct E w e h l =>
  A.run S M σ δ H _ _ w e h fun d S1 M1 v H1 p1 t1 w1 h1 => by
    obtain ⟨x, y, rfl, p1⟩ := p1
    match v, h1 with
    | [u, v], .cons h2 (.cons h3 .nil) => exact ⟨u, v, rfl, l.nx _ S1 M1 _ H1 p1 t1 w1 (((e.step w t1).set h2).set h3)⟩⟩
end
/-- x op= e of numbers -/
class IpD (r : TIp) (rd : outParam DR) : Prop where
  run : ∀ S M H x y dx dy P Q, Wo S M H → Dt S H x dx → Dt S H y dy → rd dx dy M P → AtE S M H P Q → r x y H Q
instance ip_I {f : Int → Int → Int} : IpD (ipI f) (V.rI1 fun i j => .int (f i j)) := ⟨fun S M H x y dx dy P Q w hx hy h k => by
  obtain ⟨i, j, rfl, rfl, p⟩ := h
  cases hx; cases hy
  exact ⟨i, j, rfl, rfl, k _ S M _ H p .refl w (.int _)⟩⟩
def sAug (i : Nat) (a : DE) (r : DR) : DS := fun nx _ _ _ δ M => ∃ x, δ[i]? = some (some x) ∧ a δ M fun y M1 => r x y M1 fun z M2 => nx (δ.set i (some z)) M2
instance pu_aug {i : Nat} {ta : TE} {da : DE} {r : TIp} {rd : DR} [A : PuE ta da] [B : IpD r rd] : PuS (tAug i ta r) (sAug i da rd) := ⟨fun S M σ δ H nx rt bk ct E w e h l => by
  obtain ⟨x, hx, p⟩ := h
  obtain ⟨v, hv, hd⟩ := e.at_ i x hx
  refine ⟨v, hv, A.run S M σ δ H _ _ w e p fun d S1 M1 u H1 p1 t1 w1 h1 => ?_⟩
  exact B.run S1 M1 H1 _ _ _ _ _ _ w1 (dt_step w t1 _ hd) h1 p1 fun z S2 M2 y H2 p2 t2 w2 h2 => l.nx _ S2 M2 _ H2 p2 (t1.trans t2) w2 ((e.step w (t1.trans t2)).set h2)⟩
/-- a field of a changing instance -/
def rPut1 (K : PySem.W.Frag) (f : Str) (x y : D) (M : Mem) (P : Mem → Prop) : Prop := ∃ p C fs, x = .ptr p ∧ M p = some (.ins C fs) ∧ Cls K C ∧ NoAttr K C f ∧ fs.length < 1000 ∧ P (mset M p (.ins C (putD f y fs)))
def sFldD (K : PySem.W.Frag) (a v : DE) (f : Str) : DS := fun nx _ _ _ δ M => v δ M fun y M1 => a δ M1 fun x M2 => rPut1 K f x y M2 (nx δ)
theorem put_held {S : Addr → Prop} {H : Hp} {f : Str} {v : V} {d : D} (hd : Dt S H v d) : ∀ {gs : List (Str × V)} {fs : List (Str × D)}, gs.map (·.1) = fs.map (·.1) → DtA S H (gs.map (·.2)) (fs.map (·.2)) → (putF f v gs).map (·.1) = (putD f d fs).map (·.1) ∧ DtA S H ((putF f v gs).map (·.2)) ((putD f d fs).map (·.2))
  | [], [], _, _ => ⟨rfl, .cons hd .nil⟩
  | (n, u) :: gs, (m, e) :: fs, h, .cons h1 t => by
    rw [List.map_cons, List.map_cons, List.cons.injEq] at h
    obtain ⟨h0, h⟩ := h
    have h0 : n = m := h0
    subst h0
    unfold putF putD
    by_cases c : n = f
    · simp only [c, if_true, beq_self_eq_true, List.map_cons]
      exact ⟨by rw [h], .cons hd t⟩
    · have c' : (n == f) = false := by simpa using c
      simp only [c, c', if_false, Bool.false_eq_true, List.map_cons]
      obtain ⟨a, b⟩ := put_held hd h t
      exact ⟨by rw [a], .cons h1 b⟩
theorem map_len {α β γ : Type} {f : α → γ} {g : β → γ} {l : List α} {m : List β} (h : l.map f = m.map g) : l.length = m.length := by
  have := congrArg List.length h
  rwa [List.length_map, List.length_map] at this
instance pu_sfld {K : PySem.W.Frag} {ta tv : TE} {da dv : DE} {f : Str} [A : PuE ta da] [B : PuE tv dv] : PuS (sFld K ta tv f) (sFldD K da dv f) := ⟨fun S M σ δ H nx rt bk ct E w e h l =>
  B.run S M σ δ H _ _ w e h fun d S1 M1 v H1 p1 t1 w1 h1 =>
    A.run S1 M1 σ δ H1 _ _ w1 (e.step w t1) p1 fun d2 S2 M2 v2 H2 p2 t2 w2 h2 => by
      obtain ⟨p, C, fs, rfl, hm, c, n, hl, p2⟩ := p2
      cases h2
      obtain ⟨sp, dx, gs, ha, hn, hs⟩ := w2.mem p _ hm
      have hv := dt_step w1 t2 _ h1
      have ex : Ext S2 H2 (upd H2 p (.ins C dx (putF f v gs))) := Ext.mut (Ext.refl _) sp
      obtain ⟨q1, q2⟩ := put_held (f := f) hv hn hs
      have t3 : Step S2 M2 H2 S2 (mset M2 p (.ins C (putD f d fs))) (upd H2 p (.ins C dx (putF f v gs))) := .change hm
      exact ⟨p, C, dx, gs, rfl, ha, c, n, by rw [map_len hn]; exact hl, l.nx _ _ _ _ _ p2 ((t1.trans t2).trans t3) (w2.change hm ⟨dx, _, upd_same, q1, q2.go ex⟩) (e.step w ((t1.trans t2).trans t3))⟩⟩
/-- while: by an invariant that falls -/
def sWhile (c : DT) (b : DS) : DS := fun nx rt _ _ δ M => ∃ W : Nat → QS, (∃ m, W m δ M) ∧ ∀ m δ M, W m δ M →
  c δ M fun k M1 => if k = true then b (fun δ' M' => ∃ m', m' < m ∧ W m' δ' M') rt nx (fun δ' M' => ∃ m', m' < m ∧ W m' δ' M') δ M1 else nx δ M1
instance pu_while {c : TT} {t : TS} {dc : DT} {dt : DS} [C : PuT c dc] [B : PuS t dt] : PuS (tWhile c t) (sWhile dc dt) := ⟨fun S M σ δ H nx rt bk ct E w e h l => by
  obtain ⟨W, ⟨m0, h0⟩, turn⟩ := h
  refine ⟨fun m σ' H' => ∃ S' M' δ', W m δ' M' ∧ Step S M H S' M' H' ∧ Wo S' M' H' ∧ En S' H' σ' δ', ⟨m0, S, M, δ, h0, .refl, w, e⟩, ?_⟩
  rintro m σ1 H1 ⟨S1, M1, δ1, hW, t1, w1, e1⟩
  refine C.run S1 M1 σ1 δ1 H1 _ _ w1 e1 (turn m δ1 M1 hW) fun b S2 M2 H2 p2 t2 w2 => ?_
  cases b with
  | true =>
    rw [if_pos rfl] at p2 ⊢
    refine ⟨fun σ' H' => ∃ m', m' < m ∧ ∃ S' M' δ', W m' δ' M' ∧ Step S M H S' M' H' ∧ Wo S' M' H' ∧ En S' H' σ' δ', fun σ' H' q => q, ?_⟩
    have t12 := t1.trans t2
    refine B.run S2 M2 σ1 δ1 H2 _ _ _ _ _ w2 (e1.step w1 t2) p2 ⟨?_, l.rt.go t12, fun a b c d e p t3 w f => l.nx a b c d e p (t12.trans t3) w f, ?_⟩
    · rintro δ3 S3 M3 σ3 H3 ⟨m', hm, q⟩ t3 w3 e3
      exact ⟨m', hm, S3, M3, δ3, q, t12.trans t3, w3, e3⟩
    · rintro δ3 S3 M3 σ3 H3 ⟨m', hm, q⟩ t3 w3 e3
      exact ⟨m', hm, S3, M3, δ3, q, t12.trans t3, w3, e3⟩
  | false =>
    rw [if_neg Bool.false_ne_true] at p2 ⊢
    exact l.nx _ S2 M2 _ H2 p2 (t1.trans t2) w2 (e1.step w1 t2)⟩
/-- J walks these data, while G stands -/
structure Walks (J : It) (G : Mem → Prop) (S : Addr → Prop) (M : Mem) (H : Hp) (xs : List D) : Prop where
  stop : ∀ S' M' H', Step S M H S' M' H' → Wo S' M' H' → G M' → J.stop xs.length H'
  go : ∀ i S' M' H', i < xs.length → Step S M H S' M' H' → Wo S' M' H' → G M' → J.go i H'
  yld : ∀ i S' M' H' x H2, i < xs.length → Step S M H S' M' H' → Wo S' M' H' → G M' → J.yld i H' x H2 → Same H' H2 ∧ ∃ d, xs[i]? = some d ∧ Dt S' H2 x d
abbrev DI := Dl → Mem → ((Mem → Prop) → List D → Mem → Prop) → Prop
class PuI (t : TI) (dt : outParam DI) : Prop where
  run : ∀ S M σ δ H (P : (Mem → Prop) → List D → Mem → Prop) (R : It → Hp → Prop), Wo S M H → En S H σ δ → dt δ M P → (∀ G xs S' M' H' J, P G xs M' → Step S M H S' M' H' → Wo S' M' H' → Walks J G S' M' H' xs → R J H') → t σ H R
def rDiL (x : D) (M : Mem) (P : (Mem → Prop) → List D → Mem → Prop) : Prop := (∃ xs, x = .lst xs ∧ P (fun _ => True) xs M) ∨ ∃ p xs, x = .ptr p ∧ M p = some (.lst xs) ∧ P (fun M => M p = some (.lst xs)) xs M
def diL (a : DE) : DI := fun δ M P => a δ M fun x M1 => rDiL x M1 P
def diT (a : DE) : DI := fun δ M P => a δ M fun x M1 => ∃ xs, isTF x xs ∧ P (fun _ => True) xs M1
def diS (a : DE) : DI := fun δ M P => a δ M fun x M1 => ∃ z, x = .str z ∧ P (fun _ => True) ((cd z).map sgn) M1
def diR1 (a : DA) : DI := fun δ M P => a δ M fun xs M1 => ∃ j : Int, xs = [.int j] ∧ -(2 ^ 62) ≤ j ∧ j < 2 ^ 62 ∧ P (fun _ => True) (rgD 0 j) M1
def diR2 (a : DA) : DI := fun δ M P => a δ M fun xs M1 => ∃ i j : Int, xs = [.int i, .int j] ∧ (-(2 ^ 62) ≤ i ∧ i < 2 ^ 62 ∧ -(2 ^ 62) ≤ j ∧ j < 2 ^ 62) ∧ P (fun _ => True) (rgD i j) M1
section
variable {S S' : Addr → Prop} {M M' : Mem} {H H' : Hp} {K : PySem.W.Frag}
theorem at_some {α : Type} {xs : List α} {i : Nat} (h : i < xs.length) : xs[i]? = some xs[i] := by simp [h]
theorem walks_list {a : Addr} {vs : List V} {xs : List D} {G : Mem → Prop} (q : ∀ S' M' H', Step S M H S' M' H' → Wo S' M' H' → G M' → ∃ vs, H' a = some (.lst vs) ∧ DtA S' H' vs xs) : Walks (Itl K a) G S M H xs where
  stop S' M' H' t w g := by
    obtain ⟨vs, h1, h2⟩ := q S' M' H' t w g
    exact ⟨vs, SqL.of h1, by rw [h2.length]; exact Nat.le_refl _⟩
  go i S' M' H' hi t w g := by
    obtain ⟨vs, h1, h2⟩ := q S' M' H' t w g
    have hl := h2.length
    exact ⟨vs, vs[i], SqL.of h1, at_some (by omega)⟩
  yld i S' M' H' x H2 hi t w g y := by
    obtain ⟨vs, h1, h2⟩ := q S' M' H' t w g
    obtain ⟨rfl, y⟩ := y
    obtain ⟨d, e1, e2⟩ := h2.getV (y vs (SqL.of h1))
    exact ⟨Same.refl _, d, e1, e2⟩
theorem walks_tf {a : Addr} {vs : List V} {xs : List D} {G : Mem → Prop} (q : ∀ S' M' H', Step S M H S' M' H' → Wo S' M' H' → G M' → ∃ vs, Rd H' a (.tup vs) ∧ DtA S' H' vs xs) : Walks (Itt K a) G S M H xs where
  stop S' M' H' t w g := by
    obtain ⟨vs, h1, h2⟩ := q S' M' H' t w g
    exact ⟨vs, Or.inl h1, by rw [h2.length]; exact Nat.le_refl _⟩
  go i S' M' H' hi t w g := by
    obtain ⟨vs, h1, h2⟩ := q S' M' H' t w g
    have hl := h2.length
    exact ⟨vs, vs[i], Or.inl h1, at_some (by omega)⟩
  yld i S' M' H' x H2 hi t w g y := by
    obtain ⟨vs, h1, h2⟩ := q S' M' H' t w g
    obtain ⟨rfl, y⟩ := y
    obtain ⟨d, e1, e2⟩ := h2.getV (y vs (Or.inl h1))
    exact ⟨Same.refl _, d, e1, e2⟩
theorem stay_lst (w : Wo S M H) {a : Addr} {xs : List D} (h : Dt S H (.ref a) (.lst xs)) : ∀ S' M' H', Step S M H S' M' H' → Wo S' M' H' → True → ∃ vs, H' a = some (.lst vs) ∧ DtA S' H' vs xs := fun S' M' H' t w' _ => by
  have h' := dt_step w t _ h
  cases h' with
  | lst n ha hs => exact ⟨_, ha, hs⟩
theorem stay_tup (w : Wo S M H) {a : Addr} {xs : List D} (h : Dt S H (.ref a) (.tup xs)) : ∀ S' M' H', Step S M H S' M' H' → Wo S' M' H' → True → ∃ vs, H' a = some (.tup vs) ∧ DtA S' H' vs xs := fun S' M' H' t w' _ => by
  have h' := dt_step w t _ h
  cases h' with
  | tup n ha hs => exact ⟨_, ha, hs⟩
theorem stay_tf (w : Wo S M H) {a : Addr} {x : D} {xs : List D} (h : Dt S H (.ref a) x) (e : isTF x xs) : ∀ S' M' H', Step S M H S' M' H' → Wo S' M' H' → True → ∃ vs, Rd H' a (.tup vs) ∧ DtA S' H' vs xs := fun S' M' H' t w' _ => by
  have h' := dt_step w t _ h
  obtain ⟨b, vs, e1, n, ha, hs⟩ := tf_get h' e
  cases e1
  exact ⟨vs, ha, hs⟩
theorem rgD_get {i j : Int} {k : Nat} (h : k < (rgD i j).length) : (rgD i j)[k]? = some (.int (i + (k : Nat))) := by
  unfold rgD at h ⊢
  rw [List.length_map, List.length_range] at h
  rw [List.getElem?_map, List.getElem?_range h]
  rfl
theorem rgD_len (i j : Int) : (rgD i j).length = (j - i).toNat := by unfold rgD; rw [List.length_map, List.length_range]
theorem walks_rng {lo hi : Int} {n : Nat} (hn : (hi - lo).toNat = n) {G : Mem → Prop} : Walks (Itr lo n) G S M H (rgD lo hi) where
  stop S' M' H' t w g := by rw [rgD_len, hn]; exact Nat.le_refl n
  go i S' M' H' hi t w g := by rw [rgD_len, hn] at hi; exact hi
  yld i S' M' H' x H2 hi t w g y := by
    obtain ⟨rfl, rfl⟩ := y
    exact ⟨Same.refl _, _, rgD_get hi, .int _⟩
theorem walks_str {z : Str} {G : Mem → Prop} : Walks (Its z) G S M H ((cd z).map sgn) where
  stop S' M' H' t w g := by rw [List.length_map]; show z.cps.size ≤ _; rw [cd_size]; exact Nat.le_refl _
  go i S' M' H' hi t w g := by rw [List.length_map] at hi; show i < z.cps.size; rw [cd_size]; exact hi
  yld i S' M' H' x H2 hi t w g y := by
    obtain ⟨rfl, c, hc, rfl⟩ := y
    refine ⟨Same.refl _, sgn c, ?_, .str _⟩
    rw [List.getElem?_map, cd_get hc]
    rfl
end
section
variable {ta : TE} {da : DE} {K : PySem.W.Frag} {tt : TA} {dd : DA}
instance pu_iL [A : PuE ta da] : PuI (iList K ta) (diL da) := ⟨fun S M σ δ H P R w e h k =>
  A.run S M σ δ H _ _ w e h fun d S1 M1 v H1 p1 t1 w1 h1 => by
    rcases p1 with ⟨xs, rfl, p1⟩ | ⟨p, xs, rfl, hm, p1⟩
    · cases h1 with
      | lst n ha hs => exact ⟨_, rfl, ⟨_, SqL.of ha⟩, k _ xs S1 M1 H1 _ p1 t1 w1 (walks_list (vs := []) (stay_lst w1 (.lst n ha hs)))⟩
    · cases h1
      obtain ⟨_, vs, ha, hs⟩ := w1.mem p _ hm
      refine ⟨_, rfl, ⟨_, SqL.of ha⟩, k _ xs S1 M1 H1 _ p1 t1 w1 (walks_list (vs := []) fun S' M' H' t w' g => ?_)⟩
      obtain ⟨_, vs, h1, h2⟩ := w'.mem p _ g
      exact ⟨vs, h1, h2⟩⟩
instance pu_iT [A : PuE ta da] : PuI (iTup K ta) (diT da) := ⟨fun S M σ δ H P R w e h k =>
  A.run S M σ δ H _ _ w e h fun d S1 M1 v H1 p1 t1 w1 h1 => by
    obtain ⟨xs, hx, p1⟩ := p1
    obtain ⟨a, vs, rfl, n, ha, hs⟩ := tf_get h1 hx
    exact ⟨_, rfl, ⟨_, Or.inl ha⟩, k _ xs S1 M1 H1 _ p1 t1 w1 (walks_tf (vs := []) (stay_tf w1 h1 hx))⟩⟩
instance pu_iS [A : PuE ta da] : PuI (iStr ta) (diS da) := ⟨fun S M σ δ H P R w e h k =>
  A.run S M σ δ H _ _ w e h fun d S1 M1 v H1 p1 t1 w1 h1 => by
    obtain ⟨z, rfl, p1⟩ := p1
    cases h1
    exact ⟨z, rfl, k _ _ S1 M1 H1 _ p1 t1 w1 walks_str⟩⟩
instance pu_iR1 [A : PuA tt dd] : PuI (iRng1 tt) (diR1 dd) := ⟨fun S M σ δ H P R w e h k =>
  A.run S M σ δ H _ _ w e h fun d S1 M1 v H1 p1 t1 w1 h1 => by
    obtain ⟨j, rfl, b1, b2, p1⟩ := p1
    match v, h1 with
    | [_], .cons (.int _) .nil => exact ⟨j, rfl, b1, b2, k _ _ S1 M1 H1 _ p1 t1 w1 (walks_rng (by rw [Int.sub_zero]))⟩⟩
instance pu_iR2 [A : PuA tt dd] : PuI (iRng2 tt) (diR2 dd) := ⟨fun S M σ δ H P R w e h k =>
  A.run S M σ δ H _ _ w e h fun d S1 M1 v H1 p1 t1 w1 h1 => by
    obtain ⟨i, j, rfl, b, p1⟩ := p1
    match v, h1 with
    | [_, _], .cons (.int _) (.cons (.int _) .nil) => exact ⟨i, j, rfl, b, k _ _ S1 M1 H1 _ p1 t1 w1 (walks_rng rfl)⟩⟩
end
/-- the turns that are left -/
def dLoop (G : Mem → Prop) (g : DG) (b : DS) (nx : QS) (rt : QD) : List D → QS
  | [], δ, M => nx δ M
  | x :: xs, δ, M => g x δ M fun δ1 M1 => b (fun δ' M' => G M' ∧ dLoop G g b nx rt xs δ' M') rt nx (fun δ' M' => G M' ∧ dLoop G g b nx rt xs δ' M') δ1 M1
def sFor (i : DI) (g : DG) (b : DS) : DS := fun nx rt _ _ δ M => i δ M fun G xs M1 => G M1 ∧ dLoop G g b nx rt xs δ M1
theorem drop_cons {α : Type} {xs : List α} {i : Nat} {x : α} (h : xs[i]? = some x) : xs.drop i = x :: xs.drop (i + 1) := by
  obtain ⟨hi, rfl⟩ := List.getElem?_eq_some_iff.mp h
  exact List.drop_eq_getElem_cons hi
instance pu_for {ti : TI} {g : TG} {t : TS} {di : DI} {dg : DG} {dt : DS} {sl : List Nat} [I : PuI ti di] [A : PuG g dg sl] [B : PuS t dt] : PuS (tFor ti g t) (sFor di dg dt) := ⟨fun S M σ δ H nx rt bk ct E w e h l =>
  I.run S M σ δ H _ _ w e h fun G xs S1 M1 H1 J p1 t1 w1 wk => by
    refine ⟨fun i m σ' H' => i ≤ xs.length ∧ m = xs.length - i ∧ ∃ S' M' δ', G M' ∧ dLoop G dg dt nx rt (xs.drop i) δ' M' ∧ Step S1 M1 H1 S' M' H' ∧ Wo S' M' H' ∧ En S' H' σ' δ', ⟨_, Nat.zero_le _, rfl, S1, M1, δ, p1.1, p1.2, .refl, w1, e.step w t1⟩, ?_⟩
    rintro i m σ2 H2 ⟨hi, rfl, S2, M2, δ2, g2, p2, t2, w2, e2⟩
    by_cases hlt : i < xs.length
    · refine .inr ⟨wk.go i S2 M2 H2 hlt t2 w2 g2, fun σ' H' => ∃ S' M' δ', G M' ∧ dLoop G dg dt nx rt (xs.drop (i + 1)) δ' M' ∧ Step S1 M1 H1 S' M' H' ∧ Wo S' M' H' ∧ En S' H' σ' δ', ?_, ?_⟩
      · rintro σ' H' q
        exact ⟨_, by omega, hlt, rfl, q⟩
      · intro x H3 y
        obtain ⟨same, d, hd, hx⟩ := wk.yld i S2 M2 H2 x H3 hlt t2 w2 g2 y
        rw [drop_cons hd] at p2
        have t3 : Step S2 M2 H2 S2 M2 H3 := .same same
        have w3 := w2.same same
        refine A.run S2 M2 σ2 δ2 H3 x d _ _ w3 (e2.step w2 t3) hx p2 fun δ4 S4 M4 σ4 H4 p4 t4 w4 e4 _ => ?_
        have t14 := (t2.trans t3).trans t4
        refine B.run S4 M4 σ4 δ4 H4 _ _ _ _ _ w4 e4 p4 ⟨?_, l.rt.go (t1.trans t14), fun a b c d e p t5 w f => l.nx a b c d e p ((t1.trans t14).trans t5) w f, ?_⟩
        · rintro δ5 S5 M5 σ5 H5 ⟨g5, p5⟩ t5 w5 e5
          exact ⟨S5, M5, δ5, g5, p5, t14.trans t5, w5, e5⟩
        · rintro δ5 S5 M5 σ5 H5 ⟨g5, p5⟩ t5 w5 e5
          exact ⟨S5, M5, δ5, g5, p5, t14.trans t5, w5, e5⟩
    · have ei : i = xs.length := by omega
      subst ei
      rw [List.drop_length] at p2
      exact .inl ⟨wk.stop S2 M2 H2 t2 w2 g2, l.nx _ S2 M2 _ H2 p2 (t1.trans t2) w2 e2⟩⟩
def dGather (G : Mem → Prop) (g : DG) (t : DT) (a : DE) (vs : List Nat) (δ : Dl) (P : QD) : List D → List D → Mem → Prop
  | [], acc, M => P (.lst acc) M
  | x :: xs, acc, M => g x (wipeD δ vs) M fun δ1 M1 => t δ1 M1 fun b M2 => if b = true then a δ1 M2 fun y M3 => G M3 ∧ dGather G g t a vs δ P xs (acc ++ [y]) M3 else G M2 ∧ dGather G g t a vs δ P xs acc M2
def dLc (i : DI) (g : DG) (t : DT) (a : DE) (vs : List Nat) : DE := fun δ M P => i δ M fun G xs M1 => G M1 ∧ xs.length ≤ 16777216 ∧ dGather G g t a vs δ P xs [] M1
class MemL (i : Nat) (vs : List Nat) : Prop where
  h : i ∈ vs
instance memL_h {i : Nat} {vs : List Nat} : MemL i (i :: vs) := ⟨List.mem_cons_self⟩
instance memL_t {i j : Nat} {vs : List Nat} [A : MemL i vs] : MemL i (j :: vs) := ⟨List.mem_cons_of_mem _ A.h⟩
instance memL_mh {i : Nat} {n : Str} {l : List (Str × Nat)} : MemL i (List.map (fun x => x.2) ((n, i) :: l)) := ⟨by simp⟩
instance memL_mt {i j : Nat} {n : Str} {l : List (Str × Nat)} [A : MemL i (List.map (fun x => x.2) l)] : MemL i (List.map (fun x => x.2) ((n, j) :: l)) := ⟨List.mem_cons_of_mem _ A.h⟩
class SubL (sl vs : List Nat) : Prop where
  h : ∀ i ∈ sl, i ∈ vs
instance subL_nil {vs : List Nat} : SubL [] vs := ⟨fun _ h => by cases h⟩
instance subL_cons {i : Nat} {sl vs : List Nat} [A : MemL i vs] [B : SubL sl vs] : SubL (i :: sl) vs := ⟨fun j h => (List.mem_cons.mp h).elim (fun e => by rw [e]; exact A.h) (B.h j)⟩
instance subL_app {s1 s2 vs : List Nat} [A : SubL s1 vs] [B : SubL s2 vs] : SubL (s1 ++ s2) vs := ⟨fun j h => (List.mem_append.mp h).elim (A.h j) (B.h j)⟩
def dYes : DT := fun _ M P => P true M
instance pu_yes : PuT tYes dYes := ⟨fun S M σ δ H P Q w e h k => k _ S M H h .refl w⟩
theorem wipe_wipe (σ : L2.St) (vs : List Nat) : L2.wipe (L2.wipe σ vs) vs = L2.wipe σ vs := by
  have : ∀ (us : List Nat), (∀ i ∈ us, i ∈ vs) → L2.wipe (L2.wipe σ us) vs = L2.wipe σ vs := by
    intro us
    induction us with
    | nil => intro _; rfl
    | cons u us ih =>
      intro h
      rw [show L2.wipe σ (u :: us) = (L2.wipe σ us).set u none from rfl, wipe_set _ _ _ _ (h u List.mem_cons_self)]
      exact ih fun i hi => h i (List.mem_cons_of_mem _ hi)
  exact this vs fun _ h => h
instance pu_lc {ti : TI} {g : TG} {t : TT} {ta : TE} {di : DI} {dg : DG} {dt : DT} {da : DE} {sl vs : List Nat} [I : PuI ti di] [A : PuG g dg sl] [sub : SubL sl vs] [T : PuT t dt] [B : PuE ta da] : PuE (tLc ti g t ta vs) (dLc di dg dt da vs) := ⟨fun S M σ δ H P Q w e h k =>
  I.run S M σ δ H _ _ w e h fun G xs S1 M1 H1 J p1 t1 w1 wk => by
    intro D0 hD
    obtain ⟨g1, hn, p1⟩ := p1
    -- what stands between the turns
    let Iv : Nat → Hp → Prop := fun i H' => ∃ S' M' acc ws, G M' ∧ dGather G dg dt da vs δ P (xs.drop i) acc M' ∧ Step S1 M1 H1 S' M' H' ∧ Wo S' M' H' ∧ En S' H' σ δ ∧ S' D0 ∧ M' D0 = none ∧ H' D0 = some (.lst ws) ∧ DtA S' H' ws acc ∧ acc.length ≤ i
    refine ⟨fun i m H' => i ≤ xs.length ∧ m = xs.length - i ∧ Iv i H', ⟨_, Nat.zero_le _, rfl, (fun a => S1 a ∨ a = D0), M1, [], [], g1, p1, .apart hD, w1.apart hD, (e.step w t1).step w1 (.apart hD), .inr rfl, w1.fresh hD, upd_same, .nil, Nat.zero_le _⟩, ?_⟩
    rintro i m H2 ⟨hi, rfl, S2, M2, acc, ws, g2, p2, t2, w2, e2, sD, mD, hL, hA, hlen⟩
    by_cases hlt : i < xs.length
    · refine .inr ⟨wk.go i S2 M2 H2 hlt t2 w2 g2, Iv (i + 1), fun H' q => ⟨_, by omega, hlt, rfl, q⟩, ?_⟩
      intro x H3 y
      obtain ⟨same, d, hd, hx⟩ := wk.yld i S2 M2 H2 x H3 hlt t2 w2 g2 y
      rw [drop_cons hd] at p2
      have t3 : Step S2 M2 H2 S2 M2 H3 := .same same
      have w3 := w2.same same
      have e3 := e2.step w2 t3
      refine A.run S2 M2 _ _ H3 x d _ _ w3 (e3.wipe vs) hx p2 fun δ4 S4 M4 σ4 H4 p4 t4 w4 e4 o4 => ⟨by rw [o4 vs sub.h, wipe_wipe], ?_⟩
      refine T.run S4 M4 σ4 δ4 H4 _ _ w4 e4 p4 fun b S5 M5 H5 p5 t5 w5 => ?_
      have t25 := (t3.trans t4).trans t5
      obtain ⟨hL5, mD5, sD5⟩ := t25.keep _ _ mD hL
      have hA5 := dtA_step w2 t25 _ hA
      cases b with
      | true =>
        rw [if_pos rfl] at p5 ⊢
        refine B.run S5 M5 σ4 δ4 H5 _ _ w5 (e4.step w4 t5) p5 fun y S6 M6 v H6 p6 t6 w6 h6 => ?_
        obtain ⟨hL6, mD6, sD6⟩ := t6.keep _ _ mD5 hL5
        have hA6 := dtA_step w5 t6 _ hA5
        have sd : S6 D0 := sD6.mpr (sD5.mpr sD)
        have ex : Ext S6 H6 (upd H6 D0 (.lst (ws ++ [v]))) := Ext.mut (Ext.refl _) sd
        refine ⟨ws, hL6, by rw [hA.length]; exact Nat.lt_of_le_of_lt hlen (Nat.lt_of_lt_of_le hlt (by rw [sizeLine_eq]; exact hn)), S6, M6, acc ++ [y], ws ++ [v], p6.1, p6.2, ?_, ?_, ?_, sd, mD6, upd_same, (hA6.snoc h6).go ex, by rw [List.length_append, List.length_singleton]; omega⟩
        · have t16 := (t2.trans t25).trans t6
          refine ⟨fun b o n hb => ?_⟩
          obtain ⟨q1, q2, q3⟩ := t16.keep b o n hb
          exact ⟨(upd_ne (ne_of_none hb hD)).trans q1, q2, q3⟩
        · refine ⟨fun a s => ?_, fun a mo q => ?_⟩
          · by_cases c : a = D0
            · rw [c, upd_same]; exact fun z => nomatch z
            · rw [upd_ne c]; exact w6.tr a s
          · obtain ⟨s, q2⟩ := w6.mem a mo q
            have c : a ≠ D0 := by rintro rfl; rw [mD6] at q; cases q
            exact ⟨s, held_ext ex (fun u hu => (upd_ne c).trans hu) q2⟩
        · have e6 : En S6 H6 σ δ := e3.step w3 ((t4.trans t5).trans t6)
          exact ⟨e6.len, fun i d h => by
            obtain ⟨v, h1, h2⟩ := e6.at_ i d h
            exact ⟨v, h1, h2.go ex⟩⟩
      | false =>
        rw [if_neg Bool.false_ne_true] at p5 ⊢
        exact ⟨S5, M5, acc, ws, p5.1, p5.2, t2.trans t25, w5, e2.step w2 t25, sD5.mpr sD, mD5, hL5, hA5, by omega⟩
    · have ei : i = xs.length := by omega
      subst ei
      rw [List.drop_length] at p2
      refine .inl ⟨wk.stop S2 M2 H2 t2 w2 g2, k _ (fun a => S2 a ∧ a ≠ D0) M2 _ H2 p2 (t1.trans ⟨fun b o n hb => ?_⟩) ⟨fun a s => w2.tr a s.1, fun a mo q => ?_⟩ (.lst (fun z => z.2 rfl) hL (dtA_freeze hA))⟩
      · obtain ⟨q1, q2, q3⟩ := t2.keep b o n hb
        have c := ne_of_none hb hD
        exact ⟨q1, q2, ⟨fun z => q3.mp z.1, fun z => ⟨q3.mpr z, c⟩⟩⟩
      · obtain ⟨s, q2⟩ := w2.mem a mo q
        have c : a ≠ D0 := by rintro rfl; rw [mD] at q; cases q
        exact ⟨⟨s, c⟩, held_set (fun b n _ z => n z.1) q2⟩⟩
end V
namespace V
open PySem PySem.Spec PyProof.Rows L2 U StX
def lift (sp : DC) : Sp := fun vs H Q E => ∃ S M ds P, Wo S M H ∧ DtA S H vs ds ∧ sp ds M P ∧ AtE S M H P Q
/-- an __init__ whose instance changes no more -/
def liftF (sp : DC) : Sp := lift sp
def startD (N : List Str) (ds : List D) : Dl := ds.map some ++ List.replicate (N.length - ds.length) none
theorem en_start {S : Addr → Prop} {H : Hp} (N : List Str) : ∀ {vs : List V} {ds : List D}, DtA S H vs ds → En S H (L2.start N vs) (startD N ds) := by
  intro vs ds h
  have hl := h.length
  refine ⟨by unfold L2.start startD; simp [hl], fun i d hi => ?_⟩
  unfold startD at hi
  unfold L2.start
  by_cases c : i < ds.length
  · rw [List.getElem?_append_left (by rw [List.length_map]; exact c), List.getElem?_map] at hi
    obtain ⟨d', h1, h2⟩ := Option.map_eq_some_iff.mp hi
    cases h2
    obtain ⟨v, h3, h4⟩ := h.get h1
    refine ⟨v, ?_, h4⟩
    rw [List.getElem?_append_left (by rw [List.length_map]; omega), List.getElem?_map, h3]
    rfl
  · rw [List.getElem?_append_right (by rw [List.length_map]; omega), List.getElem?_replicate] at hi
    split at hi <;> cases hi
section
variable {P : Program} {w : World} {K : PySem.W.Frag} {mg : Str → Option Value} {base : Heap} {x qual : Str} {st : Stmt} {f : Addr} {fd : FuncData} {N ps : List Str} {k : Nat} {sp : DC}
theorem liftLen (len : ∀ ds M P, sp ds M P → ds.length = ps.length) : ∀ vs H Q E, lift sp vs H Q E → vs.length = ps.length := fun vs H Q E ⟨S, M, ds, P, _, h, p, _⟩ => by rw [h.length]; exact len ds M P p
theorem body_run {X : Cx} {body : List Stmt} {t : TS} {dt : DS} [A : PuS t dt] (go : ∀ ds M P, sp ds M P → dt (fun _ M' => P .non M') P (fun _ _ => False) (fun _ _ => False) (startD N ds) M) {vs : List V} {H : Hp} {Q : VK} {E : XK} (h : lift sp vs H Q E) :
    t { nx := fun _ H' => Q .non H', rt := Q } (L2.start N vs) H := by
  obtain ⟨S, M, ds, P, w, h, p, k⟩ := h
  exact A.run S M _ _ H _ _ _ _ _ w (en_start N h) (go ds M P p) ⟨fun δ' S' M' σ' H' q t w e => k _ S' M' _ H' q t w .non, k, fun _ _ _ _ _ q => q.elim, fun _ _ _ _ _ q => q.elim⟩
theorem fnD (F : L2.Fun K x qual st f fd) (S : FnScope N ps (L2.defScope st)) (len : ∀ ds M P, sp ds M P → ds.length = ps.length)
    (hb : ∀ (cdv : Value) (A : Around) (outer : List Env) (s : Shared) (H : Hp) (E : XK), Room k (A.deeper (envOfC qual (L2.defScope st) s.heap.objs.size f cdv)) →
      ∃ t, PSs (cxOf L2.CX0 P w K mg base N qual (L2.defScope st) f cdv A outer s H E).nox (L2.defBody st) t ∧ ∃ dt, PuS t dt ∧ ∀ ds M P, sp ds M P → dt (fun _ M' => P .non M') P (fun _ _ => False) (fun _ _ => False) (startD N ds) M) :
    FnOk P w K mg base L2.CX0 (k + 1) f fd ps (lift sp) :=
  F.ok S (liftLen len) fun cdv A outer s H vs Q E hr h => by
    obtain ⟨t, ht, dt, A, go⟩ := hb cdv A outer s H E hr
    exact ⟨t, ht, body_run (X := cxOf L2.CX0 P w K mg base N qual (L2.defScope st) f cdv ‹_› outer s H E) (body := L2.defBody st) go h⟩
theorem fn_weak {spA spB : Sp} {CX : CXT} (F : FnOk P w K mg base CX k f fd ps spA) (h : ∀ vs H Q E, spB vs H Q E → spA vs H Q E) : FnOk P w K mg base CX k f fd ps spB :=
  ⟨fun vs H Q E q => F.len vs H Q E (h vs H Q E q), fun A outer s H args us vs Q E hr e0 hb r hsp => F.run A outer s H args us vs Q E hr e0 hb r (h _ _ _ _ hsp)⟩
theorem fnG_weak {spA spB : Sp} (F : FnG P w K mg base k f fd ps spA) (h : ∀ vs H Q E, spB vs H Q E → spA vs H Q E) : FnG P w K mg base k f fd ps spB :=
  ⟨fun vs H Q E q => F.len vs H Q E (h vs H Q E q), fun A outer s H args us vs Q E hr hg e0 hb r hsp => F.run A outer s H args us vs Q E hr hg e0 hb r (h _ _ _ _ hsp)⟩
end
def dCall (sp : DC) (t : DA) : DE := fun δ M P => t δ M fun ds M1 => sp ds M1 P
class RelG (gV : List V → List V → List V) (gD : outParam (List D → List D → List D)) : Prop where
  run : ∀ S H vs ds zs es, DtA S H vs ds → DtA S H zs es → DtA S H (gV vs zs) (gD ds es)
instance relG_0 : RelG (fun us ws => us ++ pk0 ws) (fun us ws => us ++ pk0 ws) := ⟨fun _ _ _ _ _ _ h k => h.append k⟩
instance relG_01 : RelG (fun us ws => us ++ pk0_1 ws) (fun us ws => us ++ pk0_1 ws) := ⟨fun _ _ _ _ _ _ h k => h.append k⟩
theorem pk1_0_dt {S : Addr → Prop} {H : Hp} {zs : List V} {es : List D} (k : DtA S H zs es) : DtA S H (pk1_0 zs) (pk1_0 es) := by
  match zs, es, k with
  | [], [], .nil => exact .nil
  | [_], [_], .cons a .nil => exact .cons a .nil
  | [_, _], [_, _], .cons a (.cons b .nil) => exact .cons b (.cons a .nil)
  | _ :: _ :: _ :: _, _ :: _ :: _ :: _, .cons a (.cons b (.cons c t)) => exact .cons a (.cons b (.cons c t))
theorem pk2_1_0_dt {S : Addr → Prop} {H : Hp} {zs : List V} {es : List D} (k : DtA S H zs es) : DtA S H (pk2_1_0 zs) (pk2_1_0 es) := by
  match zs, es, k with
  | [], [], .nil => exact .nil
  | [_], [_], .cons a .nil => exact .cons a .nil
  | [_, _], [_, _], .cons a (.cons b .nil) => exact .cons a (.cons b .nil)
  | [_, _, _], [_, _, _], .cons a (.cons b (.cons c .nil)) => exact .cons c (.cons b (.cons a .nil))
  | _ :: _ :: _ :: _ :: _, _ :: _ :: _ :: _ :: _, .cons a (.cons b (.cons c (.cons d t))) => exact .cons a (.cons b (.cons c (.cons d t)))
theorem pk3_2_1_0_dt {S : Addr → Prop} {H : Hp} {zs : List V} {es : List D} (k : DtA S H zs es) : DtA S H (pk3_2_1_0 zs) (pk3_2_1_0 es) := by
  match zs, es, k with
  | [], [], .nil => exact .nil
  | [_], [_], .cons a .nil => exact .cons a .nil
  | [_, _], [_, _], .cons a (.cons b .nil) => exact .cons a (.cons b .nil)
  | [_, _, _], [_, _, _], .cons a (.cons b (.cons c .nil)) => exact .cons a (.cons b (.cons c .nil))
  | [_, _, _, _], [_, _, _, _], .cons a (.cons b (.cons c (.cons d .nil))) => exact .cons d (.cons c (.cons b (.cons a .nil)))
  | _ :: _ :: _ :: _ :: _ :: _, _ :: _ :: _ :: _ :: _ :: _, .cons a (.cons b (.cons c (.cons d (.cons e t)))) => exact .cons a (.cons b (.cons c (.cons d (.cons e t))))
instance relG_10 : RelG (fun us ws => us ++ pk1_0 ws) (fun us ws => us ++ pk1_0 ws) := ⟨fun _ _ _ _ _ _ h k => h.append (pk1_0_dt k)⟩
instance relG_210 : RelG (fun us ws => us ++ pk2_1_0 ws) (fun us ws => us ++ pk2_1_0 ws) := ⟨fun _ _ _ _ _ _ h k => h.append (pk2_1_0_dt k)⟩
instance relG_3210 : RelG (fun us ws => us ++ pk3_2_1_0 ws) (fun us ws => us ++ pk3_2_1_0 ws) := ⟨fun _ _ _ _ _ _ h k => h.append (pk3_2_1_0_dt k)⟩
def dCallN (n m : Nat) (sp : DC) (g : List D → List D → List D) (t tk : DA) : DE := fun δ M P => t δ M fun ds M1 => tk δ M1 fun es M2 => ds.length = n ∧ es.length = m ∧ sp (g ds es) M2 P
def dMeth (C : Addr) (m : Str) (sp : DC) (a : DE) (t : DA) : DE := fun δ M P => a δ M fun x M1 => (∃ ns xs, isIn M1 x C ns xs ∧ m ∉ ns) ∧ t δ M1 fun ds M2 => sp (x :: ds) M2 P
/-- a new instance -/
def rMake (C : Addr) (sp : DC) : DC := fun ds M P => ∀ x, M x = none → sp (.ptr x :: ds) (mset M x (.ins C [])) fun d M2 => d = .non ∧ P (.ptr x) M2
def rMakeF (C : Addr) (sp : DC) : DC := fun ds M P => ∀ x, M x = none → sp (.ptr x :: ds) (mset M x (.ins C [])) fun d M2 => d = .non ∧ ∃ fs, M2 x = some (.ins C fs) ∧ P (.ins C (fs.map (·.1)) (fs.map (·.2))) (mdel M2 x)
def dMakeK (r : DC) (g : List D → List D) (n : Nat) (tk : DA) : DE := fun δ M P => tk δ M fun es M1 => es.length = n ∧ r (g es) M1 P
section
variable {t tk : TA} {dt dk : DA} {ta : TE} {da : DE} {sp : DC} {E : XK} {C : Addr} {m : Str}
instance pu_call [A : PuA t dt] : PuE (tCall (lift sp) [] E t) (dCall sp dt) := ⟨fun S M σ δ H P Q w e h k =>
  A.run S M σ δ H _ _ w e h fun ds S1 M1 vs H1 p1 t1 w1 h1 => by
    rw [List.append_nil]
    exact ⟨S1, M1, ds, P, w1, h1, p1, k.go t1⟩⟩
instance pu_callN {n l : Nat} {gV : List V → List V → List V} {gD : List D → List D → List D} [A : PuA t dt] [B : PuA tk dk] [G : RelG gV gD] : PuE (tCallN n l (lift sp) gV E t tk) (dCallN n l sp gD dt dk) := ⟨fun S M σ δ H P Q w e h k =>
  A.run S M σ δ H _ _ w e h fun ds S1 M1 vs H1 p1 t1 w1 h1 =>
    B.run S1 M1 σ δ H1 _ _ w1 (e.step w t1) p1 fun es S2 M2 zs H2 p2 t2 w2 h2 => by
      obtain ⟨l1, l2, p2⟩ := p2
      exact ⟨by rw [h1.length]; exact l1, by rw [h2.length]; exact l2, S2, M2, _, P, w2, G.run S2 H2 _ _ _ _ (dtA_step w1 t2 _ h1) h2, p2, k.go (t1.trans t2)⟩⟩
theorem lookup_none {fs : List (Str × V)} (h : m ∉ fs.map (·.1)) : fs.lookup m = none := by
  induction fs with
  | nil => rfl
  | cons p fs ih =>
    rw [List.map_cons, List.mem_cons, not_or] at h
    obtain ⟨a, b⟩ := p
    rw [List.lookup_cons]
    have : (m == a) = false := by simpa using h.1
    simp only [this]
    exact ih h.2
instance pu_meth [A : PuE ta da] [B : PuA t dt] : PuE (tMeth C m (lift sp) [] E ta t) (dMeth C m sp da dt) := ⟨fun S M σ δ H P Q w e h k =>
  A.run S M σ δ H _ _ w e h fun d S1 M1 v H1 p1 t1 w1 h1 => by
    obtain ⟨⟨ns, xs, hi, hm⟩, p1⟩ := p1
    obtain ⟨a, dx, fs, rfl, ha, hn, hs⟩ := in_get w1 h1 hi
    refine ⟨a, dx, fs, rfl, ha, lookup_none (by rw [hn]; exact hm), B.run S1 M1 σ δ H1 _ _ w1 (e.step w t1) p1 fun ds S2 M2 vs H2 p2 t2 w2 h2 => ?_⟩
    rw [List.append_nil]
    exact ⟨S2, M2, d :: ds, P, w2, .cons (dt_step w1 t2 _ h1) h2, p2, k.go (t1.trans t2)⟩⟩
theorem new_ins {S : Addr → Prop} {M : Mem} {H : Hp} (w : Wo S M H) {x dx : Addr} (nx : H x = none) (nd : H dx = none) (ne : dx ≠ x) :
    Wo (fun a => S a ∨ a = x) (mset M x (.ins C [])) (upd (upd H dx (.own x)) x (.ins C dx [])) ∧ Step S M H (fun a => S a ∨ a = x) (mset M x (.ins C [])) (upd (upd H dx (.own x)) x (.ins C dx [])) := by
  have w1 := w.new (o := .own x) nd
  have nx1 : upd H dx (.own x) x = none := by rw [upd_ne ne.symm]; exact nx
  exact ⟨w1.mutable nx1 ⟨dx, [], upd_same, rfl, .nil⟩, (Step.new nd).trans (.mutable w1 nx1)⟩
theorem make_go {S : Addr → Prop} {M : Mem} {H : Hp} {P : QD} {Q : VK} {vs : List V} {ds : List D} {x dx : Addr} (w : Wo S M H) (h : DtA S H vs ds) (p : rMake C sp ds M P) (k : AtE S M H P Q) (nx : H x = none) (nd : H dx = none) (ne : dx ≠ x) :
    lift sp (.ref x :: vs) (upd (upd H dx (.own x)) x (.ins C dx [])) (fun v H2 => v = .non ∧ Q (.ref x) H2) E := by
  obtain ⟨w1, t1⟩ := new_ins (C := C) w nx nd ne
  refine ⟨_, _, _, _, w1, .cons (.ptr x) (dtA_step w t1 _ h), p x (w.fresh nx), fun d S2 M2 v H2 q t2 w2 hv => ?_⟩
  obtain ⟨rfl, q⟩ := q
  cases hv
  exact ⟨rfl, k _ S2 M2 _ H2 q (t1.trans t2) w2 (.ptr x)⟩
theorem makeF_go {S : Addr → Prop} {M : Mem} {H : Hp} {P : QD} {Q : VK} {vs : List V} {ds : List D} {x dx : Addr} (w : Wo S M H) (h : DtA S H vs ds) (p : rMakeF C sp ds M P) (k : AtE S M H P Q) (nx : H x = none) (nd : H dx = none) (ne : dx ≠ x) :
    liftF sp (.ref x :: vs) (upd (upd H dx (.own x)) x (.ins C dx [])) (fun v H2 => v = .non ∧ Q (.ref x) H2) E := by
  obtain ⟨w1, t1⟩ := new_ins (C := C) w nx nd ne
  refine ⟨_, _, _, _, w1, .cons (.ptr x) (dtA_step w t1 _ h), p x (w.fresh nx), fun d S2 M2 v H2 q t2 w2 hv => ?_⟩
  obtain ⟨rfl, fs, hm, q⟩ := q
  cases hv
  obtain ⟨sx, dx', gs, ha, hn, hs⟩ := w2.mem x _ hm
  have t3 := (t1.trans t2).trans (Step.freeze (S := S2) (H := H2) hm)
  exact ⟨rfl, k _ _ _ _ H2 q t3 w2.freeze (.ins (fun z => z.2 rfl) ha hn (dtA_freeze hs))⟩
instance pu_make [A : PuA t dt] : PuE (tMake C (lift sp) [] E t) (dCB (rMake C sp) dt) := ⟨fun S M σ δ H P Q w e h k =>
  A.run S M σ δ H _ _ w e h fun ds S1 M1 vs H1 p1 t1 w1 h1 x dx nx nd ne => by
    rw [List.append_nil]
    exact make_go w1 h1 p1 (k.go t1) nx nd ne⟩
instance pu_makeF [A : PuA t dt] : PuE (tMake C (liftF sp) [] E t) (dCB (rMakeF C sp) dt) := ⟨fun S M σ δ H P Q w e h k =>
  A.run S M σ δ H _ _ w e h fun ds S1 M1 vs H1 p1 t1 w1 h1 x dx nx nd ne => by
    rw [List.append_nil]
    exact makeF_go w1 h1 p1 (k.go t1) nx nd ne⟩
def d3210 : List D → List D := pk3_2_1_0
def d10 : List D → List D := pk1_0
def d0 : List D → List D := pk0
instance pu_makeF3210 [B : PuA tk dk] : PuE (tMakeK C 0 4 (liftF sp) (fun us ws => us ++ pk3_2_1_0 ws) E tNil tk) (dMakeK (rMakeF C sp) d3210 4 dk) := ⟨fun S M σ δ H P Q w e h k =>
  B.run S M σ δ H _ _ w e h fun es S2 M2 zs H2 p2 t2 w2 h2 => ⟨rfl, by rw [h2.length]; exact p2.1, fun x dx nx nd ne => makeF_go w2 (pk3_2_1_0_dt h2) p2.2 (k.go t2) nx nd ne⟩⟩
instance pu_makeF10 [B : PuA tk dk] : PuE (tMakeK C 0 2 (liftF sp) (fun us ws => us ++ pk1_0 ws) E tNil tk) (dMakeK (rMakeF C sp) d10 2 dk) := ⟨fun S M σ δ H P Q w e h k =>
  B.run S M σ δ H _ _ w e h fun es S2 M2 zs H2 p2 t2 w2 h2 => ⟨rfl, by rw [h2.length]; exact p2.1, fun x dx nx nd ne => makeF_go w2 (pk1_0_dt h2) p2.2 (k.go t2) nx nd ne⟩⟩
instance pu_make0 [B : PuA tk dk] : PuE (tMakeK C 0 1 (lift sp) (fun us ws => us ++ pk0 ws) E tNil tk) (dMakeK (rMake C sp) d0 1 dk) := ⟨fun S M σ δ H P Q w e h k =>
  B.run S M σ δ H _ _ w e h fun es S2 M2 zs H2 p2 t2 w2 h2 => ⟨rfl, by rw [h2.length]; exact p2.1, fun x dx nx nd ne => make_go w2 h2 p2.2 (k.go t2) nx nd ne⟩⟩
end
def potD (p : Addr) : D := .opq p (potO p)
def spDrawD : DC := fun ds M P => ∃ p n, ds = [potD p, .int n] ∧ (0 < n ∧ n < 1073741824) ∧ ∀ r, 0 ≤ r → r < n → P (.int r) M
theorem draw_lift : ∀ vs H Q E, lift spDrawD vs H Q E → spDraw vs H Q E := by
  rintro vs H Q E ⟨S, M, ds, P, w, h, ⟨p, n, rfl, hn, q⟩, k⟩
  match vs, h with
  | [_, _], .cons (.opq np hp) (.cons (.int _) .nil) => exact ⟨p, n, rfl, hp, hn, fun r H' e h0 h1 => k _ S M _ H' (q r h0 h1) (.same e) (w.same e) (.int r)⟩
theorem wo_none (H : Hp) : Wo N0 (fun _ => none) H := ⟨fun _ h => h.elim, fun _ _ h => by cases h⟩
section
variable {G : Mem → Prop} {g : DG} {b : DS} {nx : QS} {rt : QD} {xs : List D} {δ : Dl} {M : Mem}
variable {t : DT} {a : DE} {vs : List Nat} {P : QD}
theorem gather_inv (I : Nat → List D → Mem → Prop) (h0 : I 0 [] M)
    (step : ∀ i x acc M (Ky : QD) (Kn : Mem → Prop), xs[i]? = some x → I i acc M → (∀ y M', G M' → I (i + 1) (acc ++ [y]) M' → G M' ∧ Ky y M') → (∀ M', G M' → I (i + 1) acc M' → G M' ∧ Kn M') →
      g x (wipeD δ vs) M fun δ1 M1 => t δ1 M1 fun b M2 => if b = true then a δ1 M2 fun y M3 => G M3 ∧ Ky y M3 else G M2 ∧ Kn M2)
    (fin : ∀ acc M, I xs.length acc M → P (.lst acc) M) : dGather G g t a vs δ P xs [] M := by
  have key : ∀ k i acc M, i + k = xs.length → I i acc M → dGather G g t a vs δ P (xs.drop i) acc M := by
    intro k
    induction k with
    | zero =>
      intro i acc M e h
      have : i = xs.length := by omega
      subst this
      rw [List.drop_length]
      exact fin acc M h
    | succ k ih =>
      intro i acc M e h
      have hx := at_some (xs := xs) (i := i) (by omega)
      rw [drop_cons hx]
      exact step i _ acc M (fun y M' => dGather G g t a vs δ P (xs.drop (i + 1)) (acc ++ [y]) M') (dGather G g t a vs δ P (xs.drop (i + 1)) acc) hx h (fun y M' g' h' => ⟨g', ih (i + 1) _ M' (by omega) h'⟩) fun M' g' h' => ⟨g', ih (i + 1) _ M' (by omega) h'⟩
  exact key xs.length 0 [] M (by omega) h0
/-- [f(x) for x in xs if p(x)] -/
theorem gather_map {f : D → D} {p : D → Bool}
    (step : ∀ x, x ∈ xs → ∀ (Ky : QD) (Kn : Mem → Prop), (p x = true → Ky (f x) M) → (p x = false → Kn M) → g x (wipeD δ vs) M fun δ1 M1 => t δ1 M1 fun b M2 => if b = true then a δ1 M2 fun y M3 => Ky y M3 else Kn M2)
    (hG : G M) (fin : P (.lst ((xs.filter p).map f)) M) : dGather G g t a vs δ P xs [] M := by
  refine gather_inv (fun i acc M' => M' = M ∧ acc = ((xs.take i).filter p).map f) ⟨rfl, rfl⟩ ?_ ?_
  · rintro i x acc M' Ky Kn hx ⟨rfl, rfl⟩ hy hn
    refine step x (List.mem_of_getElem? hx) (fun y M3 => G M3 ∧ Ky y M3) (fun M3 => G M3 ∧ Kn M3) (fun hp => hy _ _ hG ⟨rfl, ?_⟩) (fun hp => hn _ hG ⟨rfl, ?_⟩)
    · rw [take_snoc hx, List.filter_append, List.map_append]
      simp [hp]
    · rw [take_snoc hx, List.filter_append, List.map_append]
      simp [hp]
  · rintro acc M' ⟨rfl, rfl⟩
    rw [List.take_length]
    exact fin
/-- [f(x) for x in xs] -/
theorem gather_all {f : D → D}
    (step : ∀ x, x ∈ xs → ∀ (Ky : QD), Ky (f x) M → g x (wipeD δ vs) M fun δ1 M1 => a δ1 M1 Ky)
    (hG : G M) (fin : P (.lst (xs.map f)) M) : dGather G g dYes a vs δ P xs [] M := by
  refine gather_inv (fun i acc M' => M' = M ∧ acc = (xs.take i).map f) ⟨rfl, rfl⟩ ?_ ?_
  · rintro i x acc M' Ky Kn hx ⟨rfl, rfl⟩ hy hn
    refine step x (List.mem_of_getElem? hx) (fun y M3 => G M3 ∧ Ky y M3) (hy _ _ hG ⟨rfl, ?_⟩)
    rw [take_snoc hx, List.map_append]
    rfl
  · rintro acc M' ⟨rfl, rfl⟩
    rw [List.take_length]
    exact fin
end
section
variable {δ : Dl} {M : Mem} {P : QD} {a b c : DE} {t : DA} {s u : DS} {nx bk ct : QS} {rt : QD} {g : DG} {k k' : DT} {r r' : DR} {PB : Bool → Mem → Prop} {PA : List D → Mem → Prop} {i j : Nat}
theorem x_var {d : D} (h : δ[i]? = some (some d)) (p : P d M) : dVar i δ M P := ⟨d, h, p⟩
theorem x_c {d : D} (p : P d M) : dC d δ M P := p
theorem x_op (h : a δ M fun x M1 => b δ M1 fun y M2 => r x y M2 P) : dOp r a b δ M P := h
theorem x_nil (p : PA [] M) : dNil δ M PA := p
theorem x_cons (h : a δ M fun x M1 => t δ M1 fun xs M2 => PA (x :: xs) M2) : dCons a t δ M PA := h
theorem x_tup (h : t δ M fun xs M1 => xs.length ≤ sizeLine ∧ P (.tup xs) M1) : dTup t δ M P := h
theorem x_lst (h : t δ M fun xs M1 => xs.length ≤ sizeLine ∧ P (.lst xs) M1) : dLst t δ M P := h
theorem x_lstM (h : t δ M fun xs M1 => xs.length ≤ sizeLine ∧ ∀ a, M1 a = none → P (.ptr a) (mset M1 a (.lst xs))) : dLstM t δ M P := h
theorem x_if (h : k δ M fun q M1 => if q = true then a δ M1 P else b δ M1 P) : dIf k a b δ M P := h
theorem x_B (h : a δ M fun x M1 => ∃ b, x = .bl b ∧ PB b M1) : dB a δ M PB := h
theorem x_and (h : k δ M fun c M1 => if c = true then k' δ M1 PB else PB false M1) : dAnd k k' δ M PB := h
theorem x_or (h : k δ M fun c M1 => if c = true then PB true M1 else k' δ M1 PB) : dOr k k' δ M PB := h
theorem x_not (h : k δ M fun c M1 => PB (!c) M1) : dNot k δ M PB := h
theorem x_andV (h : a δ M fun x M1 => ∃ c, x = .bl c ∧ if c = true then b δ M1 P else P (.bl false) M1) : dAndV a b δ M P := h
theorem x_orV (h : a δ M fun x M1 => ∃ c, x = .bl c ∧ if c = true then P (.bl true) M1 else b δ M1 P) : dOrV a b δ M P := h
theorem x_notV (h : a δ M fun x M1 => ∃ c, x = .bl c ∧ P (.bl (!c)) M1) : dNotV a δ M P := h
theorem x_chain (h : a δ M fun x M1 => b δ M1 fun y M2 => r x y M2 fun z M3 => ∃ k, z = .bl k ∧ if k = true then c δ M3 fun w M4 => r' y w M4 P else P (.bl false) M3) : dChain r r' a b c δ M P := h
theorem x_cb {q : DC} (h : t δ M fun xs M1 => q xs M1 P) : dCB q t δ M P := h
theorem x_then {q : D → Mem → QD → Prop} (h : a δ M fun x M1 => q x M1 P) : dThen a q δ M P := h
theorem x_star (h : a δ M fun x M1 => ∃ xs, (isTF x xs ∨ x = .lst xs ∨ ∃ p, x = .ptr p ∧ M1 p = some (.lst xs)) ∧ t δ M1 fun ys M2 => PA (xs ++ ys) M2) : dStar a t δ M PA := h
theorem x_part {PO : Option Int → Mem → Prop} (h : a δ M fun x M1 => ∃ i, x = .int i ∧ PO (some i) M1) : dPart a δ M PO := h
theorem x_noPart {PO : Option Int → Mem → Prop} (h : PO none M) : dNoPart δ M PO := h
theorem x_sl {l h : DO} (q : a δ M fun x M1 => l δ M1 fun lo M2 => h δ M2 fun hi M3 => rSl1 x lo hi M3 P) : dSl a l h δ M P := q
theorem x_fld {K : PySem.W.Frag} {f : Str} (h : a δ M fun x M1 => rFld1 K f x M1 P) : dFld K a f δ M P := h
theorem x_fldI {K : PySem.W.Frag} {C : Addr} {ns : List Str} {ds : List D} {f : Str} {d : D} (k : Nat) (l1 : ns[k]? = some f) (l2 : ds[k]? = some d) (cl : Cls K C) (n : NoAttr K C f) (l0 : ns.Nodup) (p : P d M) : rFld1 K f (.ins C ns ds) M P := ⟨C, ns, ds, d, .inl rfl, cl, n, ⟨k, l0, l1, l2⟩, p⟩
theorem x_fldQ {K : PySem.W.Frag} {C p : Addr} {fs : List (Str × D)} {f : Str} {d : D} (k : Nat) (hm : M p = some (.ins C fs)) (l1 : (fs.map (·.1))[k]? = some f) (l2 : (fs.map (·.2))[k]? = some d) (cl : Cls K C) (n : NoAttr K C f) (l0 : (fs.map (·.1)).Nodup) (q : P d M) : rFld1 K f (.ptr p) M P :=
  ⟨C, _, _, d, .inr ⟨p, fs, rfl, hm, rfl, rfl⟩, cl, n, ⟨k, l0, l1, l2⟩, q⟩
theorem x_sfld {K : PySem.W.Frag} {f : Str} (h : b δ M fun y M1 => a δ M1 fun x M2 => rPut1 K f x y M2 (nx δ)) : sFldD K a b f nx rt bk ct δ M := h
theorem x_sfldP {K : PySem.W.Frag} {f : Str} {p C : Addr} {fs : List (Str × D)} {y : D} {PM : Mem → Prop} (hm : M p = some (.ins C fs)) (c : Cls K C) (n : NoAttr K C f) (hl : fs.length < 1000) (q : PM (mset M p (.ins C (putD f y fs)))) : rPut1 K f (.ptr p) y M PM := ⟨p, C, fs, rfl, hm, c, n, hl, q⟩
theorem x_sfldQ {K : PySem.W.Frag} {f : Str} {p C : Addr} {fs : List (Str × D)} {y : D} {PM : Mem → Prop} (c : Cls K C) (n : NoAttr K C f) (hl : fs.length < 1000) (q : PM (mset M p (.ins C (putD f y fs)))) : rPut1 K f (.ptr p) y (mset M p (.ins C fs)) PM := ⟨p, C, fs, rfl, mset_same, c, n, hl, by rw [mset_set]; exact q⟩
theorem x_neg (h : a δ M fun x M1 => ∃ i, x = .int i ∧ P (.int (-i)) M1) : dNeg a δ M P := h
theorem x_join (h : a δ M fun x M1 => (∃ z, x = .str z) ∧ b δ M1 fun y M2 => rJoin1 x y M2 P) : dJoin1 a b δ M P := h
theorem x_append (h : a δ M fun x M1 => ∃ l, x = .ptr l ∧ (∃ xs, M1 l = some (.lst xs)) ∧ t δ M1 fun ys M2 => ∃ xs y, ys = [y] ∧ M2 l = some (.lst xs) ∧ xs.length < sizeLine ∧ P .non (mset M2 l (.lst (xs ++ [y])))) : dAppend a t δ M P := h
theorem x_lstRg {q : DRg} (h : q δ M fun a b M1 => RgOk a b ∧ P (.lst (rgD a b)) M1) : dLstRg q δ M P := h
theorem x_rg1 {PR : Int → Int → Mem → Prop} (h : a δ M fun x M1 => ∃ n, x = .int n ∧ PR 0 n M1) : dRg1 a δ M PR := h
theorem x_rg2 {PR : Int → Int → Mem → Prop} (h : a δ M fun x M1 => b δ M1 fun y M2 => ∃ i j, x = .int i ∧ y = .int j ∧ PR i j M2) : dRg2 a b δ M PR := h
theorem x_revL (h : a δ M fun x M1 => ∃ xs, isLs M1 x xs ∧ P (.lst xs.reverse) M1) : dRevL a δ M P := h
theorem x_joinF {ds : List DE} (h : dJs ds Str.empty δ M fun out M1 => P (.str out) M1) : dJoin ds δ M P := h
theorem x_call {sp : DC} (h : t δ M fun ds M1 => sp ds M1 P) : dCall sp t δ M P := h
theorem x_callN {n m : Nat} {sp : DC} {f : List D → List D → List D} {tk : DA} (h : t δ M fun ds M1 => tk δ M1 fun es M2 => ds.length = n ∧ es.length = m ∧ sp (f ds es) M2 P) : dCallN n m sp f t tk δ M P := h
theorem x_meth {C : Addr} {m : Str} {sp : DC} (h : a δ M fun x M1 => (∃ ns xs, isIn M1 x C ns xs ∧ m ∉ ns) ∧ t δ M1 fun ds M2 => sp (x :: ds) M2 P) : dMeth C m sp a t δ M P := h
theorem x_makeK {q : DC} {f : List D → List D} {n : Nat} (h : t δ M fun es M1 => es.length = n ∧ q (f es) M1 P) : dMakeK q f n t δ M P := h
theorem x_lc {di : DI} {vs : List Nat} (h : di δ M fun G xs M1 => G M1 ∧ xs.length ≤ 16777216 ∧ dGather G g k a vs δ P xs [] M1) : dLc di g k a vs δ M P := h
theorem x_yes (h : PB true M) : dYes δ M PB := h
theorem x_next (h : nx δ M) : sNext nx rt bk ct δ M := h
theorem x_seq (h : s (fun δ1 M1 => u nx rt bk ct δ1 M1) rt bk ct δ M) : sSeq s u nx rt bk ct δ M := h
theorem x_break (h : bk δ M) : sBreak nx rt bk ct δ M := h
theorem x_cont (h : ct δ M) : sCont nx rt bk ct δ M := h
theorem x_drop (h : a δ M fun _ M1 => nx δ M1) : sDrop a nx rt bk ct δ M := h
theorem x_ret (h : a δ M rt) : sRet a nx rt bk ct δ M := h
theorem x_retN (h : rt .non M) : sRetN nx rt bk ct δ M := h
theorem x_ifS (h : k δ M fun q M1 => if q = true then s nx rt bk ct δ M1 else u nx rt bk ct δ M1) : sIf k s u nx rt bk ct δ M := h
theorem x_asg (h : a δ M fun x M1 => g x δ M1 nx) : sAsg a g nx rt bk ct δ M := h
theorem x_gN {d : D} (h : nx (δ.set i (some d)) M) : dgN i d δ M nx := h
theorem x_par (h : t δ M fun xs M1 => ∃ x y, xs = [x, y] ∧ nx ((δ.set i (some x)).set j (some y)) M1) : sPar i j t nx rt bk ct δ M := h
theorem x_aug {d : D} (h : δ[i]? = some (some d)) (q : a δ M fun y M1 => r d y M1 fun z M2 => nx (δ.set i (some z)) M2) : sAug i a r nx rt bk ct δ M := ⟨d, h, q⟩
theorem x_for {di : DI} (h : di δ M fun G xs M1 => G M1 ∧ dLoop G g s nx rt xs δ M1) : sFor di g s nx rt bk ct δ M := h
theorem x_gT {n : Nat} {gs : DGs} {xs : List D} (h : xs.length = n) (q : gs xs δ M nx) : dgT n gs (.tup xs) δ M nx := ⟨xs, rfl, h, q⟩
theorem x_gs0 (h : nx δ M) : dgsNil [] δ M nx := ⟨rfl, h⟩
theorem x_gs1 {gs : DGs} {d : D} {ds : List D} (h : g d δ M fun δ1 M1 => gs ds δ1 M1 nx) : dgsCons g gs (d :: ds) δ M nx := ⟨d, ds, rfl, h⟩
theorem x_bl {p : Bool → Prop} {c : Bool} (h : p c) : ∃ b, D.bl c = D.bl b ∧ p b := ⟨c, rfl, h⟩
theorem x_int {p : Int → Prop} {c : Int} (h : p c) : ∃ b, D.int c = D.int b ∧ p b := ⟨c, rfl, h⟩
theorem x_int2 {p : Int → Int → Prop} {c d : Int} (h : p c d) : ∃ a b, D.int c = D.int a ∧ D.int d = D.int b ∧ p a b := ⟨c, d, rfl, rfl, h⟩
theorem x_str0 {z : Str} {p : Prop} (h : p) : (∃ y, D.str z = D.str y) ∧ p := ⟨⟨z, rfl⟩, h⟩
theorem x_two {p : D → D → Prop} {c d : D} (h : p c d) : ∃ a b, [c, d] = [a, b] ∧ p a b := ⟨c, d, rfl, h⟩
theorem x_tr {p : Prop} (h : p) : True ∧ p := ⟨trivial, h⟩
theorem x_addI {x y : Int} (h : P (.int (x + y)) M) : rAdd1 (.int x) (.int y) M P := h
theorem x_I1 {f : Int → Int → D} {x y : Int} (h : P (f x y) M) : V.rI1 f (.int x) (.int y) M P := ⟨x, y, rfl, rfl, h⟩
theorem x_ltI {x y : Int} (h : P (.bl (decide (x < y))) M) : rLt1 (.int x) (.int y) M P := h
theorem x_eqI {x y : Int} (h : P (.bl (decide (x = y))) M) : rEq1 (.int x) (.int y) M P := h
theorem x_eqS {x y : Str} (h : P (.bl (decide (x = y))) M) : rEq1 (.str x) (.str y) M P := h
theorem x_neI {x y : Int} (h : P (.bl (!decide (x = y))) M) : rNe1 (.int x) (.int y) M P := h
theorem x_neS {x y : Str} (h : P (.bl (!decide (x = y))) M) : rNe1 (.str x) (.str y) M P := h
theorem x_isN {x : D} (h : P (.bl (isNon x)) M) : rIsN1 x .non M P := ⟨rfl, h⟩
theorem x_notN {x : D} (h : P (.bl (!isNon x)) M) : rNotN1 x .non M P := ⟨rfl, h⟩
theorem x_isB {x y : Bool} (h : P (.bl (decide (x = y))) M) : rIsB1 (.bl x) (.bl y) M P := ⟨x, y, rfl, rfl, h⟩
theorem x_notB {x y : Bool} (h : P (.bl (!decide (x = y))) M) : rNotB1 (.bl x) (.bl y) M P := ⟨x, y, rfl, rfl, h⟩
theorem x_ixT {xs : List D} {n : Int} {d : D} (h : atI xs n = some d) (p : P d M) : rIx1 (.tup xs) (.int n) M P := ⟨xs, d, .inr (.inl rfl), h, p⟩
theorem x_ixL {xs : List D} {n : Int} {d : D} (h : atI xs n = some d) (p : P d M) : rIx1 (.lst xs) (.int n) M P := ⟨xs, d, .inl rfl, h, p⟩
theorem x_lenT {xs : List D} (p : P (.int xs.length) M) : rLen1 [.tup xs] M P := ⟨_, rfl, xs, .inr (.inl rfl), p⟩
theorem x_lenL {xs : List D} (p : P (.int xs.length) M) : rLen1 [.lst xs] M P := ⟨_, rfl, xs, .inl rfl, p⟩
theorem x_lenS {z : Str} (p : z.length ≤ sizeLine ∧ P (.int z.length) M) : rLen1 [.str z] M P := ⟨_, rfl, p⟩
theorem x_listL {xs : List D} (p : P (.lst xs) M) : rList1 [.lst xs] M P := ⟨_, rfl, xs, .inl rfl, p⟩
theorem x_listT {xs : List D} (p : P (.lst xs) M) : rList1 [.tup xs] M P := ⟨_, rfl, xs, .inr (.inl rfl), p⟩
theorem x_tupL {xs : List D} (p : P (.tup xs) M) : kTup1 (.lst xs) M P := ⟨xs, .inl rfl, p⟩
theorem x_tupT {xs : List D} (p : P (.tup xs) M) : kTup1 (.tup xs) M P := ⟨xs, .inr (.inl rfl), p⟩
theorem x_int1 {f : Int → D} {n : Int} (p : P (f n) M) : rI11 f [.int n] M P := ⟨n, rfl, p⟩
theorem x_int21 {f : Int → Int → D} {n m : Int} (p : P (f n m) M) : rI21 f [.int n, .int m] M P := ⟨n, m, rfl, p⟩
theorem x_slT {xs : List D} {lo hi : Option Int} (p : P (.tup (cutG xs lo hi)) M) : rSl1 (.tup xs) lo hi M P := p
theorem x_slL {xs : List D} {lo hi : Option Int} (p : P (.lst (cutG xs lo hi)) M) : rSl1 (.lst xs) lo hi M P := ⟨xs, .inl rfl, p⟩
theorem x_addL {xs ys : List D} (p : xs.length + ys.length ≤ sizeLine ∧ P (.lst (xs ++ ys)) M) : rAdd1 (.lst xs) (.lst ys) M P := ⟨xs, ys, .inl rfl, .inl rfl, p.1, p.2⟩
theorem x_all {bs : List Bool} (p : P (.bl (bs.all id)) M) : rAll1 [.lst (bs.map D.bl)] M P := ⟨_, bs, rfl, .inl rfl, p⟩
theorem x_diL {PI : (Mem → Prop) → List D → Mem → Prop} {xs : List D} (h : PI (fun _ => True) xs M) : rDiL (.lst xs) M PI := .inl ⟨xs, rfl, h⟩
theorem x_iL {PI : (Mem → Prop) → List D → Mem → Prop} (h : a δ M fun x M1 => rDiL x M1 PI) : diL a δ M PI := h
theorem x_iT {PI : (Mem → Prop) → List D → Mem → Prop} (h : a δ M fun x M1 => ∃ xs, isTF x xs ∧ PI (fun _ => True) xs M1) : diT a δ M PI := h
theorem x_iS {PI : (Mem → Prop) → List D → Mem → Prop} (h : a δ M fun x M1 => ∃ z, x = .str z ∧ PI (fun _ => True) ((cd z).map sgn) M1) : diS a δ M PI := h
theorem x_iR1 {PI : (Mem → Prop) → List D → Mem → Prop} (h : t δ M fun xs M1 => ∃ j : Int, xs = [.int j] ∧ -(2 ^ 62) ≤ j ∧ j < 2 ^ 62 ∧ PI (fun _ => True) (rgD 0 j) M1) : diR1 t δ M PI := h
theorem x_iR2 {PI : (Mem → Prop) → List D → Mem → Prop} (h : t δ M fun xs M1 => ∃ i j : Int, xs = [.int i, .int j] ∧ (-(2 ^ 62) ≤ i ∧ i < 2 ^ 62 ∧ -(2 ^ 62) ≤ j ∧ j < 2 ^ 62) ∧ PI (fun _ => True) (rgD i j) M1) : diR2 t δ M PI := h
theorem x_tfE {p : List D → Prop} {xs : List D} (h : p xs) : ∃ ys, isTF (D.tup xs) ys ∧ p ys := ⟨xs, rfl, h⟩
theorem x_tfF {p : List D → Prop} {xs : List D} (h : p xs) : ∃ ys, isTF (D.ftp xs) ys ∧ p ys := ⟨xs, rfl, h⟩
theorem x_tupE {p : List D → Prop} {xs : List D} (h : p xs) : ∃ ys, D.tup xs = .tup ys ∧ p ys := ⟨xs, rfl, h⟩
theorem x_strE {p : Str → Prop} {xs : Str} (h : p xs) : ∃ ys, D.str xs = .str ys ∧ p ys := ⟨xs, rfl, h⟩
theorem x_r1 {p : Int → Prop} {n : Int} (h : p n) : ∃ j : Int, [D.int n] = [.int j] ∧ p j := ⟨n, rfl, h⟩
theorem x_r2 {p : Int → Int → Prop} {n m : Int} (h : p n m) : ∃ i j : Int, [D.int n, D.int m] = [.int i, .int j] ∧ p i j := ⟨n, m, rfl, h⟩
theorem x_iteT {c : Prop} [Decidable c] {A B : Prop} (z : c) (h : A) : if decide c = true then A else B := by rw [decide_eq_true z, if_pos rfl]; exact h
theorem x_iteF {c : Prop} [Decidable c] {A B : Prop} (z : ¬ c) (h : B) : if decide c = true then A else B := by rw [decide_eq_false z, if_neg Bool.false_ne_true]; exact h
theorem x_itenT {c : Prop} [Decidable c] {A B : Prop} (z : ¬ c) (h : A) : if (!decide c) = true then A else B := by rw [decide_eq_false z]; exact h
theorem x_itenF {c : Prop} [Decidable c] {A B : Prop} (z : c) (h : B) : if (!decide c) = true then A else B := by rw [decide_eq_true z]; exact h
theorem x_true {A B : Prop} (h : A) : if true = true then A else B := by rw [if_pos rfl]; exact h
theorem x_false {A B : Prop} (h : B) : if false = true then A else B := by rw [if_neg Bool.false_ne_true]; exact h
theorem x_nfalse {A B : Prop} (h : A) : if (!false) = true then A else B := by simpa using h
theorem x_ntrue {A B : Prop} (h : B) : if (!true) = true then A else B := by simpa using h
end
end V
namespace V
open PySem PySem.Spec PyProof.Rows L2 U StX
def enumD (xs : List D) : List D := xs.mapIdx fun i d => .tup [.int (i : Nat), d]
def zipD (xs ys : List D) : List D := (xs.zip ys).map fun p => .tup [p.1, p.2]
def diET (a : DA) : DI := fun δ M P => a δ M fun vs M1 => ∃ x xs, vs = [x] ∧ isTF x xs ∧ P (fun _ => True) (enumD xs) M1
def diE (a : DA) : DI := fun δ M P => a δ M fun vs M1 => ∃ xs, vs = [.lst xs] ∧ P (fun _ => True) (enumD xs) M1
def diZ (a : DA) : DI := fun δ M P => a δ M fun vs M1 => ∃ xs ys, vs = [.lst xs, .lst ys] ∧ P (fun _ => True) (zipD xs ys) M1
theorem enumD_len (xs : List D) : (enumD xs).length = xs.length := by simp [enumD]
theorem enumD_get {xs : List D} {i : Nat} {d : D} (h : xs[i]? = some d) : (enumD xs)[i]? = some (.tup [.int (i : Nat), d]) := by simp [enumD, h]
theorem zipD_len (xs ys : List D) : (zipD xs ys).length = min xs.length ys.length := by simp [zipD]
theorem zipD_get {xs ys : List D} {i : Nat} {d e : D} (h : xs[i]? = some d) (k : ys[i]? = some e) : (zipD xs ys)[i]? = some (.tup [d, e]) := by
  unfold zipD
  have e1 : (xs.zip ys)[i]? = some (d, e) := List.getElem?_zip_eq_some.mpr ⟨h, k⟩
  rw [List.getElem?_map, e1]
  rfl
section
variable {K : PySem.W.Frag} {tt : TA} {dd : DA}
instance pu_iET [A : PuA tt dd] : PuI (iEnumT K tt) (diET dd) := ⟨fun S M σ δ H P R w e h k =>
  A.run S M σ δ H _ _ w e h fun d S1 M1 v H1 p1 t1 w1 h1 => by
    obtain ⟨x, xs, rfl, hx, p1⟩ := p1
    match v, h1 with
    | [u], .cons h2 .nil =>
      obtain ⟨a, vs0, rfl, n0, ha0, hs0⟩ := tf_get h2 hx
      have st := stay_tf w1 h2 hx
      obtain ⟨vs, ha, hs⟩ := st _ _ _ .refl w1 trivial
      refine ⟨a, vs, rfl, Or.inl ha, k _ _ S1 M1 H1 _ p1 t1 w1 ⟨fun S' M' H' t w' _ => ?_, fun i S' M' H' hi t w' _ => ?_, fun i S' M' H' x H2 hi t w' _ y => ?_⟩⟩
      · obtain ⟨us, h3, h4⟩ := st _ _ _ t w' trivial
        exact ⟨us, Or.inl h3, by rw [enumD_len, h4.length]⟩
      · obtain ⟨us, h3, h4⟩ := st _ _ _ t w' trivial
        rw [enumD_len] at hi
        have hl := h4.length
        exact ⟨us, us[i], Or.inl h3, at_some (by omega)⟩
      · obtain ⟨us, h3, h4⟩ := st _ _ _ t w' trivial
        obtain ⟨T, x0, rfl, nT, rfl, q⟩ := y
        obtain ⟨d, e1, e2⟩ := h4.getV (q us (Or.inl h3))
        exact ⟨Same.new nT, _, enumD_get e1, .tup (w'.ns nT) upd_same (.cons (.int _) (.cons (e2.sm (Same.new nT)) .nil))⟩⟩
instance pu_iE [A : PuA tt dd] : PuI (iEnum K tt) (diE dd) := ⟨fun S M σ δ H P R w e h k =>
  A.run S M σ δ H _ _ w e h fun d S1 M1 v H1 p1 t1 w1 h1 => by
    obtain ⟨xs, rfl, p1⟩ := p1
    match v, h1 with
    | [.ref a], .cons h2 .nil =>
      have st := stay_lst w1 h2
      obtain ⟨vs, ha, hs⟩ := st _ _ _ .refl w1 trivial
      refine ⟨a, vs, rfl, SqL.of ha, k _ _ S1 M1 H1 _ p1 t1 w1 ⟨fun S' M' H' t w' _ => ?_, fun i S' M' H' hi t w' _ => ?_, fun i S' M' H' x H2 hi t w' _ y => ?_⟩⟩
      · obtain ⟨us, h3, h4⟩ := st _ _ _ t w' trivial
        exact ⟨us, SqL.of h3, by rw [enumD_len, h4.length]; exact Nat.le_refl _⟩
      · obtain ⟨us, h3, h4⟩ := st _ _ _ t w' trivial
        rw [enumD_len] at hi
        have hl := h4.length
        exact ⟨us, us[i], SqL.of h3, at_some (by omega)⟩
      · obtain ⟨us, h3, h4⟩ := st _ _ _ t w' trivial
        obtain ⟨T, x0, rfl, nT, rfl, q⟩ := y
        obtain ⟨d, e1, e2⟩ := h4.getV (q us (SqL.of h3))
        exact ⟨Same.new nT, _, enumD_get e1, .tup (w'.ns nT) upd_same (.cons (.int _) (.cons (e2.sm (Same.new nT)) .nil))⟩⟩
instance pu_iZ [A : PuA tt dd] : PuI (iZip K tt) (diZ dd) := ⟨fun S M σ δ H P R w e h k =>
  A.run S M σ δ H _ _ w e h fun d S1 M1 v H1 p1 t1 w1 h1 => by
    obtain ⟨xs, ys, rfl, p1⟩ := p1
    match v, h1 with
    | [.ref a, .ref b], .cons h2 (.cons h3 .nil) =>
      have sa := stay_lst w1 h2
      have sb := stay_lst w1 h3
      obtain ⟨vs, ha, hs⟩ := sa _ _ _ .refl w1 trivial
      obtain ⟨us, hb, ht⟩ := sb _ _ _ .refl w1 trivial
      refine ⟨a, b, vs, us, rfl, SqL.of ha, SqL.of hb, k _ _ S1 M1 H1 _ p1 t1 w1 ⟨fun S' M' H' t w' _ => ?_, fun i S' M' H' hi t w' _ => ?_, fun i S' M' H' x H2 hi t w' _ y => ?_⟩⟩
      · obtain ⟨vs, h4, h5⟩ := sa _ _ _ t w' trivial
        obtain ⟨us, h6, h7⟩ := sb _ _ _ t w' trivial
        refine ⟨vs, us, SqL.of h4, SqL.of h6, ?_⟩
        rw [zipD_len, h5.length, h7.length]
        omega
      · obtain ⟨vs, h4, h5⟩ := sa _ _ _ t w' trivial
        obtain ⟨us, h6, h7⟩ := sb _ _ _ t w' trivial
        rw [zipD_len] at hi
        have l1 := h5.length
        have l2 := h7.length
        exact ⟨vs, us, vs[i], us[i], SqL.of h4, SqL.of h6, at_some (by omega), at_some (by omega)⟩
      · obtain ⟨vs, h4, h5⟩ := sa _ _ _ t w' trivial
        obtain ⟨us, h6, h7⟩ := sb _ _ _ t w' trivial
        obtain ⟨T, x0, y0, rfl, nT, rfl, q1, q2⟩ := y
        obtain ⟨d, e1, e2⟩ := h5.getV (q1 vs (SqL.of h4))
        obtain ⟨d', e3, e4⟩ := h7.getV (q2 us (SqL.of h6))
        exact ⟨Same.new nT, _, zipD_get e1 e3, .tup (w'.ns nT) upd_same (.cons (e2.sm (Same.new nT)) (.cons (e4.sm (Same.new nT)) .nil))⟩⟩
end
section
variable {δ : Dl} {M : Mem} {t : DA} {PI : (Mem → Prop) → List D → Mem → Prop}
theorem x_tf1 {p : List D → Prop} {ys : List D} (h : p ys) : ∃ x xs, [D.tup ys] = [x] ∧ isTF x xs ∧ p xs := ⟨_, ys, rfl, rfl, h⟩
theorem x_tf1F {p : List D → Prop} {ys : List D} (h : p ys) : ∃ x xs, [D.ftp ys] = [x] ∧ isTF x xs ∧ p xs := ⟨_, ys, rfl, rfl, h⟩
theorem x_iET (h : t δ M fun vs M1 => ∃ x xs, vs = [x] ∧ isTF x xs ∧ PI (fun _ => True) (enumD xs) M1) : diET t δ M PI := h
theorem x_iE (h : t δ M fun vs M1 => ∃ xs, vs = [.lst xs] ∧ PI (fun _ => True) (enumD xs) M1) : diE t δ M PI := h
theorem x_iZ (h : t δ M fun vs M1 => ∃ xs ys, vs = [.lst xs, .lst ys] ∧ PI (fun _ => True) (zipD xs ys) M1) : diZ t δ M PI := h
theorem x_tup1 {p : List D → Prop} {xs : List D} (h : p xs) : ∃ ys, [D.tup xs] = [.tup ys] ∧ p ys := ⟨xs, rfl, h⟩
theorem x_lst1 {p : List D → Prop} {xs : List D} (h : p xs) : ∃ ys, [D.lst xs] = [.lst ys] ∧ p ys := ⟨xs, rfl, h⟩
theorem x_lst2 {p : List D → List D → Prop} {xs ys : List D} (h : p xs ys) : ∃ us vs, [D.lst xs, D.lst ys] = [.lst us, .lst vs] ∧ p us vs := ⟨xs, ys, rfl, h⟩
theorem x_starT {p : List D → Prop} {xs : List D} (h : p xs) : ∃ us, (isTF (D.tup xs) us ∨ D.tup xs = .lst us ∨ ∃ p, D.tup xs = .ptr p ∧ M p = some (.lst us)) ∧ p us := ⟨xs, .inl rfl, h⟩
theorem x_starF {p : List D → Prop} {xs : List D} (h : p xs) : ∃ us, (isTF (D.ftp xs) us ∨ D.ftp xs = .lst us ∨ ∃ p, D.ftp xs = .ptr p ∧ M p = some (.lst us)) ∧ p us := ⟨xs, .inl rfl, h⟩
theorem x_starL {p : List D → Prop} {xs : List D} (h : p xs) : ∃ us, (isTF (D.lst xs) us ∨ D.lst xs = .lst us ∨ ∃ p, D.lst xs = .ptr p ∧ M p = some (.lst us)) ∧ p us := ⟨xs, .inr (.inl rfl), h⟩
variable {P : QD}
theorem x_eqIN {x : Int} (h : P (.bl false) M) : rEq1 (.int x) .non M P := h
theorem x_eqNI {x : Int} (h : P (.bl false) M) : rEq1 .non (.int x) M P := h
theorem x_eqSN {x : Str} (h : P (.bl false) M) : rEq1 (.str x) .non M P := h
theorem x_eqNS {x : Str} (h : P (.bl false) M) : rEq1 .non (.str x) M P := h
theorem x_eqNN (h : P (.bl true) M) : rEq1 .non .non M P := h
theorem x_eqBB {x y : Bool} (h : P (.bl (decide (x = y))) M) : rEq1 (.bl x) (.bl y) M P := h
theorem x_neIN {x : Int} (h : P (.bl true) M) : rNe1 (.int x) .non M P := h
theorem x_neNI {x : Int} (h : P (.bl true) M) : rNe1 .non (.int x) M P := h
theorem x_neSN {x : Str} (h : P (.bl true) M) : rNe1 (.str x) .non M P := h
theorem x_neNS {x : Str} (h : P (.bl true) M) : rNe1 .non (.str x) M P := h
theorem x_neNN (h : P (.bl false) M) : rNe1 .non .non M P := h
theorem x_neBB {x y : Bool} (h : P (.bl (!decide (x = y))) M) : rNe1 (.bl x) (.bl y) M P := h
end
end V
namespace V
open PySem PySem.Spec PyProof.Rows L2 U StX
/-- '0' at one place, '.' at all others -/
def wCode (c : Option Nat) (i : Nat) : Nat := if c = some i then 48 else 46
/-- what a part of a plan shows of a candidate -/
def fv (c : Option Nat) : D → D
  | .int i => sgn (wCode c i.toNat)
  | d => d
end V
namespace V
open PySem PySem.Spec PyProof.Rows L2 U StX RZ
section
variable {K : PySem.W.Frag} {tt : TA} {dd : DA}
def diZT (a : DA) : DI := fun δ M P => a δ M fun vs M1 => ∃ xs ys, vs = [.tup xs, .tup ys] ∧ P (fun _ => True) (zipD xs ys) M1
instance pu_iZT [A : PuA tt dd] : PuI (iZipA K tt) (diZT dd) := ⟨fun S M σ δ H P R w e h k =>
  A.run S M σ δ H _ _ w e h fun d S1 M1 v H1 p1 t1 w1 h1 => by
    obtain ⟨xs, ys, rfl, p1⟩ := p1
    match v, h1 with
    | [.ref a, .ref b], .cons h2 (.cons h3 .nil) =>
      have sa := stay_tup w1 h2
      have sb := stay_tup w1 h3
      obtain ⟨vs, ha, hs⟩ := sa _ _ _ .refl w1 trivial
      obtain ⟨us, hb, ht⟩ := sb _ _ _ .refl w1 trivial
      refine ⟨a, b, vs, us, rfl, .inr ⟨SqT.of ha, SqT.of hb, k _ _ S1 M1 H1 _ p1 t1 w1 ⟨fun S' M' H' t w' _ => ?_, fun i S' M' H' hi t w' _ => ?_, fun i S' M' H' x H2 hi t w' _ y => ?_⟩⟩⟩
      · obtain ⟨vs, h4, h5⟩ := sa _ _ _ t w' trivial
        obtain ⟨us, h6, h7⟩ := sb _ _ _ t w' trivial
        refine ⟨vs, us, SqT.of h4, SqT.of h6, ?_⟩
        rw [zipD_len, h5.length, h7.length]
        omega
      · obtain ⟨vs, h4, h5⟩ := sa _ _ _ t w' trivial
        obtain ⟨us, h6, h7⟩ := sb _ _ _ t w' trivial
        rw [zipD_len] at hi
        have l1 := h5.length
        have l2 := h7.length
        exact ⟨vs, us, vs[i], us[i], SqT.of h4, SqT.of h6, at_some (by omega), at_some (by omega)⟩
      · obtain ⟨vs, h4, h5⟩ := sa _ _ _ t w' trivial
        obtain ⟨us, h6, h7⟩ := sb _ _ _ t w' trivial
        obtain ⟨T, x0, y0, rfl, nT, rfl, q1, q2⟩ := y
        obtain ⟨d, e1, e2⟩ := h5.getV (q1 vs (SqT.of h4))
        obtain ⟨d', e3, e4⟩ := h7.getV (q2 us (SqT.of h6))
        exact ⟨Same.new nT, _, zipD_get e1 e3, .tup (w'.ns nT) upd_same (.cons (e2.sm (Same.new nT)) (.cons (e4.sm (Same.new nT)) .nil))⟩⟩
end
def sPar3 (i j l : Nat) (t : DA) : DS := fun nx _ _ _ δ M => t δ M fun xs M1 => ∃ x y z, xs = [x, y, z] ∧ nx (((δ.set i (some x)).set j (some y)).set l (some z)) M1
instance pu_par3 {i j l : Nat} {tt : TA} {dd : DA} [A : PuA tt dd] : PuS (tPar3 i j l tt) (sPar3 i j l dd) := ⟨fun S M σ δ H nx rt bk ct E w e h lk =>
  A.run S M σ δ H _ _ w e h fun d S1 M1 v H1 p1 t1 w1 h1 => by
    obtain ⟨x, y, z, rfl, p1⟩ := p1
    match v, h1 with
    | [u, v, q], .cons h2 (.cons h3 (.cons h4 .nil)) => exact ⟨u, v, q, rfl, lk.nx _ S1 M1 _ H1 p1 t1 w1 ((((e.step w t1).set h2).set h3).set h4)⟩⟩
theorem x_par3 {i j l : Nat} {t : DA} {nx bk ct : QS} {rt : QD} {δ : Dl} {M : Mem} (h : t δ M fun xs M1 => ∃ x y z, xs = [x, y, z] ∧ nx (((δ.set i (some x)).set j (some y)).set l (some z)) M1) : sPar3 i j l t nx rt bk ct δ M := h
theorem x_three {p : D → D → D → Prop} {c d e : D} (h : p c d e) : ∃ x y z, [c, d, e] = [x, y, z] ∧ p x y z := ⟨c, d, e, rfl, h⟩
def rMulS1 : DR := fun x y M P => ∃ z n, x = .str z ∧ y = .int n ∧ z.length ≤ 2000 ∧ 0 ≤ n ∧ n ≤ 8000 ∧ P (.str (Txt.mul z n)) M
instance op_mulS1 : OpD rMulS rMulS1 := ⟨fun S M H x y dx dy P Q w hx hy h k => by
  obtain ⟨z, n, rfl, rfl, h1, h2, h3, p⟩ := h
  cases hx; cases hy
  exact ⟨z, n, rfl, rfl, h1, h2, h3, k _ S M _ H p .refl w (.str _)⟩⟩
theorem x_iZT {δ : Dl} {M : Mem} {t : DA} {PI : (Mem → Prop) → List D → Mem → Prop} (h : t δ M fun vs M1 => ∃ xs ys, vs = [.tup xs, .tup ys] ∧ PI (fun _ => True) (zipD xs ys) M1) : diZT t δ M PI := h
theorem x_tup2 {p : List D → List D → Prop} {xs ys : List D} (h : p xs ys) : ∃ us vs, [D.tup xs, D.tup ys] = [.tup us, .tup vs] ∧ p us vs := ⟨xs, ys, rfl, h⟩
end V
namespace V
open PySem PySem.Spec PyProof.Rows L2 U StX
/-- t + u -/
def rCat1 : DR := fun x y M P => ∃ xs ys, x = .tup xs ∧ y = .tup ys ∧ xs.length + ys.length ≤ sizeLine ∧ P (.tup (xs ++ ys)) M
instance op_cat1 {K : PySem.W.Frag} : OpD (rCatA K) rCat1 := ⟨fun S M H x y dx dy P Q w hx hy h k => by
  obtain ⟨xs, ys, rfl, rfl, hl, p⟩ := h
  cases hx with
  | @tup a vs _ n ha hs =>
    cases hy with
    | @tup b us _ m hb ht =>
      refine ⟨a, b, vs, us, rfl, rfl, SqT.of ha, SqT.of hb, by rw [hs.length, ht.length]; exact hl, fun e => ?_, fun e1 e2 => ?_, fun e1 e2 q nq => ?_⟩
      · subst e
        cases hs
        exact k _ S M _ H p .refl w (.tup m hb ht)
      · subst e2
        cases ht
        rw [List.append_nil] at p
        exact k _ S M _ H p .refl w (.tup n ha hs)
      · exact k _ S M _ _ p (.new nq) (w.new nq) (.tup (w.ns nq) upd_same ((hs.append ht).sm (Same.new nq)))⟩
end V
namespace V
open PySem PySem.Spec PyProof.Rows L2 U StX
def rLtD (K : PySem.W.Frag) : R2 := fun x y H Q => ∃ d e, Dp K H x d ∧ Dp K H y e ∧ PySem.W.alike d e = true ∧ d ≠ .none ∧ min d.depth e.depth < 64 ∧ Q (.bl (PySem.W.dataLt d e)) H
def rLtP1 : DR := fun x y M P => ∃ (n m : Int) (z u : Str), x = .tup [.int n, .str z] ∧ y = .tup [.int m, .str u] ∧ P (.bl (if n = m then decide (cd z < cd u) else decide (n < m))) M
theorem eqv_str (z u : Str) : PyData.eqv (.str z) (.str u) = decide (z = u) := by
  simp only [PyData.eqv]
  by_cases h : z = u
  · simp [h]
  · simp [h]
theorem lt_np {n m : Int} {z u : Str} : PySem.W.dataLt (.tuple [.int n, .str z]) (.tuple [.int m, .str u]) = if n = m then decide (cd z < cd u) else decide (n < m) := by
  rw [PySem.W.dataLt_pair (by simp [PySem.W.alike]) (by simp [PySem.W.alike]), PySem.W.dataLt_int, PySem.W.dataLt_str, eqv_str]
  simp only [PyData.eqv, beq_iff_eq]
  by_cases h : n = m
  · simp only [h, if_true]
    by_cases k : z = u
    · subst k
      rw [decide_eq_true rfl, if_pos rfl]
      exact (decide_eq_false (List.lt_irrefl _)).symm
    · rw [decide_eq_false k, if_neg Bool.false_ne_true]
      rfl
  · simp only [h, if_false]
instance op_ltP1 {K : PySem.W.Frag} : OpD (rLtD K) rLtP1 := ⟨fun S M H x y dx dy P Q w hx hy h k => by
  obtain ⟨n, m, z, u, rfl, rfl, p⟩ := h
  have e1 : D.py (.tup [.int n, .str z]) = some (.tuple [.int n, .str z]) := by simp [D.py, D.pys]
  have e2 : D.py (.tup [.int m, .str u]) = some (.tuple [.int m, .str u]) := by simp [D.py, D.pys]
  refine ⟨_, _, Dt.dp _ hx e1, Dt.dp _ hy e2, by simp [PySem.W.alike, PySem.W.alikeAll], by simp, by simp [PyData.depth, PyData.depthAll], ?_⟩
  rw [lt_np]
  exact k _ S M _ H p .refl w (.bl _)⟩
theorem nlow : ∀ (k : Nat) (l : List Nat), (∀ c ∈ l, 46 ≤ c ∧ c ≠ 47) → l.length = k → ¬ l < List.replicate k 46
  | 0, l, _, _ => List.not_lt_nil l
  | k + 1, [], _, h => by simp at h
  | k + 1, x :: t, hc, h => by
    rw [List.replicate_succ, List.cons_lt_cons_iff]
    rintro (z | ⟨_, z⟩)
    · have := (hc x (by simp)).1; omega
    · exact nlow k t (fun c h => hc c (by simp [h])) (by simpa using h) z
theorem low : ∀ (m k : Nat) (l : List Nat), (∀ c ∈ l, 46 ≤ c ∧ c ≠ 47) → l.length = m + 1 + k → l < List.replicate m 46 ++ 48 :: List.replicate k 46 → ∀ a, a ≤ m → l[a]? = some 46
  | _, _, [], _, h, _, _, _ => by simp at h; omega
  | 0, k, x :: t, hc, h, lt, a, ha => by
    have e : a = 0 := by omega
    subst e
    have hx := hc x (by simp)
    simp only [List.replicate_zero, List.nil_append, List.cons_lt_cons_iff] at lt
    rcases lt with z | ⟨_, z⟩
    · have : x = 46 := by omega
      rw [this]; rfl
    · exact (nlow k t (fun c h => hc c (by simp [h])) (by simp at h; omega) z).elim
  | m + 1, k, x :: t, hc, h, lt, a, ha => by
    have hx := hc x (by simp)
    simp only [List.replicate_succ, List.cons_append, List.cons_lt_cons_iff] at lt
    rcases lt with z | ⟨e, z⟩
    · omega
    · cases a with
      | zero => rw [e]; rfl
      | succ a => exact low m k t (fun c h => hc c (by simp [h])) (by simp at h; omega) z a (by omega)
end V
namespace V
open PySem PySem.Spec PyProof.Rows L2 U StX
def kD : Key → D
  | .inl i => .int i
  | .inr x => .str x
def valD (kvs : List (Key × D)) (k : Key) : Option D := (kvs.find? fun kv => decide (kv.1 = k)).map (·.2)
def putDk (kvs : List (Key × D)) (k : Key) (d : D) : List (Key × D) :=
  if (kvs.any fun kv => decide (kv.1 = k)) = true then kvs.map (fun kv => if kv.1 = k then (kv.1, d) else kv) else kvs ++ [(k, d)]
theorem valD_pos {p : Key × D} {r : List (Key × D)} {k : Key} (e : p.1 = k) : valD (p :: r) k = some p.2 := by simp [valD, List.find?_cons, e]
theorem valD_neg {p : Key × D} {r : List (Key × D)} {k : Key} (e : ¬ p.1 = k) : valD (p :: r) k = valD r k := by simp [valD, List.find?_cons, e]
section
variable {S S' : Addr → Prop} {M M' : Mem} {H H' : Hp}
theorem dt_kD {v : V} {k : Key} (h : Dt S H v (kD k)) : v = kV k := by
  cases k with
  | inl i => cases h; rfl
  | inr x => cases h; rfl
theorem val_held : ∀ {ws : List (Key × V)} {kvs : List (Key × D)}, ws.map (·.1) = kvs.map (·.1) → DtA S H (ws.map (·.2)) (kvs.map (·.2)) → ∀ k, (valD kvs k = none ∧ valV ws k = none) ∨ ∃ d v, valD kvs k = some d ∧ valV ws k = some v ∧ Dt S H v d
  | [], [], _, _, k => .inl ⟨rfl, rfl⟩
  | [], _ :: _, h, _, _ => by simp at h
  | _ :: _, [], h, _, _ => by simp at h
  | (a, v) :: ws, (b, d) :: kvs, hk, hs, k => by
    simp only [List.map_cons, List.cons.injEq] at hk
    obtain ⟨rfl, hk⟩ := hk
    cases hs with
    | cons h1 h2 =>
      by_cases c : a = k
      · exact .inr ⟨d, v, valD_pos c, valV_pos c, h1⟩
      · rw [valD_neg (p := (a, d)) c, valV_neg (p := (a, v)) c]
        exact val_held hk h2 k
theorem map_held {v : V} {d : D} (hv : Dt S H v d) (k : Key) : ∀ {ws : List (Key × V)} {kvs : List (Key × D)}, ws.map (·.1) = kvs.map (·.1) → DtA S H (ws.map (·.2)) (kvs.map (·.2)) →
    (ws.map (fun kv => if kv.1 = k then (kv.1, v) else kv)).map (·.1) = (kvs.map (fun kv => if kv.1 = k then (kv.1, d) else kv)).map (·.1) ∧
    DtA S H ((ws.map (fun kv => if kv.1 = k then (kv.1, v) else kv)).map (·.2)) ((kvs.map (fun kv => if kv.1 = k then (kv.1, d) else kv)).map (·.2))
  | [], [], _, _ => ⟨rfl, .nil⟩
  | [], _ :: _, h, _ => by simp at h
  | _ :: _, [], h, _ => by simp at h
  | (a, x) :: ws, (b, y) :: kvs, hk, hs => by
    simp only [List.map_cons, List.cons.injEq] at hk
    obtain ⟨rfl, hk⟩ := hk
    cases hs with
    | cons h1 h2 =>
      obtain ⟨e1, e2⟩ := map_held hv k hk h2
      simp only [List.map_cons]
      by_cases c : a = k
      · rw [if_pos c, if_pos c]
        exact ⟨by rw [e1], .cons hv e2⟩
      · rw [if_neg c, if_neg c]
        exact ⟨by rw [e1], .cons h1 e2⟩
theorem any_held (k : Key) : ∀ {ws : List (Key × V)} {kvs : List (Key × D)}, ws.map (·.1) = kvs.map (·.1) → (ws.any fun kv => decide (kv.1 = k)) = (kvs.any fun kv => decide (kv.1 = k))
  | [], [], _ => rfl
  | [], _ :: _, h => by simp at h
  | _ :: _, [], h => by simp at h
  | (a, x) :: ws, (b, y) :: kvs, hk => by
    simp only [List.map_cons, List.cons.injEq] at hk
    obtain ⟨rfl, hk⟩ := hk
    rw [List.any_cons, List.any_cons, any_held k hk]
theorem put_heldK {v : V} {d : D} (hv : Dt S H v d) (k : Key) {ws : List (Key × V)} {kvs : List (Key × D)} (hk : ws.map (·.1) = kvs.map (·.1)) (hs : DtA S H (ws.map (·.2)) (kvs.map (·.2))) :
    (putK ws k v).map (·.1) = (putDk kvs k d).map (·.1) ∧ DtA S H ((putK ws k v).map (·.2)) ((putDk kvs k d).map (·.2)) := by
  unfold putK putDk
  rw [any_held k hk]
  by_cases c : (kvs.any fun kv => decide (kv.1 = k)) = true
  · rw [if_pos c, if_pos c]
    exact map_held hv k hk hs
  · rw [if_neg c, if_neg c, List.map_append, List.map_append, List.map_append, List.map_append, hk]
    exact ⟨rfl, hs.snoc hv⟩
theorem len_held {ws : List (Key × V)} {kvs : List (Key × D)} (hk : ws.map (·.1) = kvs.map (·.1)) : ws.length = kvs.length := by
  have := congrArg List.length hk
  rwa [List.length_map, List.length_map] at this
end
def dDNew : DE := fun δ M P => ∀ a, M a = none → P (.ptr a) (mset M a (.dic []))
instance pu_dnew : PuE tDNewK dDNew := ⟨fun S M σ δ H P Q w e h k p hp =>
  k (.ptr p) _ _ (.ref p) _ (h p (w.fresh hp)) (.mutable w hp) (w.mutable hp ⟨[], upd_same, rfl, .nil⟩) (.ptr p)⟩
def dDGet2 (a b c : DE) : DE := fun δ M P => a δ M fun x M1 => ∃ p, x = .ptr p ∧ (∃ kvs, M1 p = some (.dic kvs)) ∧ b δ M1 fun y M2 => c δ M2 fun z M3 => ∃ kvs k, M3 p = some (.dic kvs) ∧ y = kD k ∧ P ((valD kvs k).getD z) M3
instance pu_dget2 {ta tb tc : TE} {da db dc : DE} [A : PuE ta da] [B : PuE tb db] [C : PuE tc dc] : PuE (tDGet2 ta tb tc) (dDGet2 da db dc) := ⟨fun S M σ δ H P Q w e h k =>
  A.run S M σ δ H _ _ w e h fun x S1 M1 v1 H1 p1 t1 w1 h1 => by
    obtain ⟨p, rfl, ⟨kvs, hm⟩, p1⟩ := p1
    cases h1
    obtain ⟨_, ws, ha, _, _⟩ := w1.mem p _ hm
    refine ⟨p, rfl, .inl ⟨ws, .inl ha⟩, B.run S1 M1 σ δ H1 _ _ w1 (e.step w t1) p1 fun y S2 M2 v2 H2 p2 t2 w2 h2 => C.run S2 M2 σ δ H2 _ _ w2 (e.step w (t1.trans t2)) p2 fun z S3 M3 v3 H3 p3 t3 w3 h3 => ?_⟩
    obtain ⟨kvs, k', hm, rfl, p3⟩ := p3
    have ev := dt_kD h2
    subst ev
    obtain ⟨_, ws, ha, hk, hs⟩ := w3.mem p _ hm
    refine ⟨valV ws k', DGet.k ha, ?_⟩
    rcases val_held hk hs k' with ⟨e1, e2⟩ | ⟨d, v, e1, e2, e3⟩
    · rw [e2]
      rw [e1] at p3
      exact k _ _ _ _ _ p3 ((t1.trans t2).trans t3) w3 h3
    · rw [e2]
      rw [e1] at p3
      exact k _ _ _ _ _ p3 ((t1.trans t2).trans t3) w3 e3⟩
def dDSetd (a b c : DE) : DE := fun δ M P => a δ M fun x M1 => ∃ p, x = .ptr p ∧ (∃ kvs, M1 p = some (.dic kvs)) ∧ b δ M1 fun y M2 => c δ M2 fun z M3 => ∃ kvs k, M3 p = some (.dic kvs) ∧ y = kD k ∧ kvs.length < sizeLine ∧
  (∀ d, valD kvs k = some d → P d M3) ∧ (valD kvs k = none → P z (mset M3 p (.dic (putDk kvs k z))))
instance pu_dsetd {ta tb tc : TE} {da db dc : DE} [A : PuE ta da] [B : PuE tb db] [C : PuE tc dc] : PuE (tDSetd ta tb tc) (dDSetd da db dc) := ⟨fun S M σ δ H P Q w e h k =>
  A.run S M σ δ H _ _ w e h fun x S1 M1 v1 H1 p1 t1 w1 h1 => by
    obtain ⟨p, rfl, ⟨kvs, hm⟩, p1⟩ := p1
    cases h1
    obtain ⟨_, ws, ha, _, _⟩ := w1.mem p _ hm
    refine ⟨p, rfl, .inl ⟨ws, .inl ha⟩, B.run S1 M1 σ δ H1 _ _ w1 (e.step w t1) p1 fun y S2 M2 v2 H2 p2 t2 w2 h2 => C.run S2 M2 σ δ H2 _ _ w2 (e.step w (t1.trans t2)) p2 fun z S3 M3 v3 H3 p3 t3 w3 h3 => ?_⟩
    obtain ⟨kvs, k', hm, rfl, hl, q1, q2⟩ := p3
    have ev := dt_kD h2
    subst ev
    obtain ⟨sp, ws, ha, hk, hs⟩ := w3.mem p _ hm
    have t123 := (t1.trans t2).trans t3
    refine ⟨ws, k', ha, rfl, by rw [len_held hk]; exact hl, fun v hv => ?_, fun hv => ?_⟩
    · rcases val_held hk hs k' with ⟨e1, e2⟩ | ⟨d, v', e1, e2, e3⟩
      · rw [e2] at hv; cases hv
      · rw [e2] at hv; cases hv
        exact k _ _ _ _ _ (q1 d e1) t123 w3 e3
    · rcases val_held hk hs k' with ⟨e1, e2⟩ | ⟨d, v', e1, e2, e3⟩
      · obtain ⟨e4, e5⟩ := put_heldK h3 k' hk hs
        have ex : Ext S3 H3 (upd H3 p (.dK (putK ws k' v3))) := Ext.mut (Ext.refl _) sp
        exact k _ _ _ _ _ (q2 e1) (t123.trans (.change hm)) (w3.change hm ⟨_, upd_same, e4, e5.go ex⟩) (h3.go ex)
      · rw [e2] at hv; cases hv⟩
def sDPutD (a b c : DE) : DS := fun nx rt bk ct δ M => c δ M fun z M1 => a δ M1 fun x M2 => b δ M2 fun y M3 => ∃ p kvs k, x = .ptr p ∧ M3 p = some (.dic kvs) ∧ y = kD k ∧ kvs.length < sizeLine ∧ nx δ (mset M3 p (.dic (putDk kvs k z)))
instance pu_dput {ta tb tc : TE} {da db dc : DE} [A : PuE ta da] [B : PuE tb db] [C : PuE tc dc] : PuS (sDPut ta tb tc) (sDPutD da db dc) := ⟨fun S M σ δ H nx rt bk ct E w e h l =>
  C.run S M σ δ H _ _ w e h fun z S1 M1 v1 H1 p1 t1 w1 h1 => A.run S1 M1 σ δ H1 _ _ w1 (e.step w t1) p1 fun x S2 M2 v2 H2 p2 t2 w2 h2 =>
    B.run S2 M2 σ δ H2 _ _ w2 (e.step w (t1.trans t2)) p2 fun y S3 M3 v3 H3 p3 t3 w3 h3 => by
      obtain ⟨p, kvs, k', rfl, hm, rfl, hl, q⟩ := p3
      have ev := dt_kD h3
      subst ev
      cases h2
      obtain ⟨sp, ws, ha, hk, hs⟩ := w3.mem p _ hm
      have hv := dt_step w1 (t2.trans t3) _ h1
      obtain ⟨e4, e5⟩ := put_heldK hv k' hk hs
      have t123 := (t1.trans t2).trans t3
      have ex : Ext S3 H3 (upd H3 p (.dK (putK ws k' v1))) := Ext.mut (Ext.refl _) sp
      have t4 : Step S M H S3 (mset M3 p (.dic (putDk kvs k' z))) (upd H3 p (.dK (putK ws k' v1))) := t123.trans (.change hm)
      exact ⟨p, _, rfl, DPut.k ha (by rw [len_held hk]; exact hl), l.nx _ _ _ _ _ q t4 (w3.change hm ⟨_, upd_same, e4, e5.go ex⟩) (e.step w t4)⟩⟩
/-- d[k] -/
def dDIx (a b : DE) : DE := fun δ M P => a δ M fun x M1 => b δ M1 fun y M2 => ∃ p kvs k d, x = .ptr p ∧ M2 p = some (.dic kvs) ∧ y = kD k ∧ valD kvs k = some d ∧ P d M2
instance pu_dix {ta tb : TE} {da db : DE} [A : PuE ta da] [B : PuE tb db] : PuE (tDGet ta tb) (dDIx da db) := ⟨fun S M σ δ H P Q w e h k =>
  A.run S M σ δ H _ _ w e h fun x S1 M1 v1 H1 p1 t1 w1 h1 => B.run S1 M1 σ δ H1 _ _ w1 (e.step w t1) p1 fun y S2 M2 v2 H2 p2 t2 w2 h2 => by
    obtain ⟨p, kvs, k', d, rfl, hm, rfl, hv, p2⟩ := p2
    have ev := dt_kD h2
    subst ev
    cases h1
    obtain ⟨_, ws, ha, hk, hs⟩ := w2.mem p _ hm
    rcases val_held hk hs k' with ⟨e1, e2⟩ | ⟨d', v, e1, e2, e3⟩
    · rw [hv] at e1; cases e1
    · rw [hv] at e1; cases e1
      exact ⟨p, v, rfl, e2 ▸ DGet.k ha, k _ _ _ _ _ p2 (t1.trans t2) w2 e3⟩⟩
/-- k in d -/
def dDIn (a b : DE) : DE := fun δ M P => a δ M fun y M1 => b δ M1 fun x M2 => ∃ p kvs k, x = .ptr p ∧ M2 p = some (.dic kvs) ∧ y = kD k ∧ P (.bl (valD kvs k).isSome) M2
instance pu_din {ta tb : TE} {da db : DE} [A : PuE ta da] [B : PuE tb db] : PuE (tDIn ta tb) (dDIn da db) := ⟨fun S M σ δ H P Q w e h k =>
  A.run S M σ δ H _ _ w e h fun y S1 M1 v1 H1 p1 t1 w1 h1 => B.run S1 M1 σ δ H1 _ _ w1 (e.step w t1) p1 fun x S2 M2 v2 H2 p2 t2 w2 h2 => by
    obtain ⟨p, kvs, k', rfl, hm, rfl, p2⟩ := p2
    have ev := dt_kD h1
    subst ev
    cases h2
    obtain ⟨_, ws, ha, hk, hs⟩ := w2.mem p _ hm
    refine ⟨p, valV ws k', rfl, DGet.k ha, ?_⟩
    rcases val_held hk hs k' with ⟨e1, e2⟩ | ⟨d', v, e1, e2, e3⟩
    · rw [e2]
      rw [e1] at p2
      exact k _ _ _ _ _ p2 (t1.trans t2) w2 (.bl _)
    · rw [e2]
      rw [e1] at p2
      exact k _ _ _ _ _ p2 (t1.trans t2) w2 (.bl _)⟩
/-- len(d) -/
def rLenDK : List V → Hp → VK → Prop := fun xs H Q => ∃ (a : Addr) (kvs : List (Key × V)), xs = [.ref a] ∧ H a = some (.dK kvs) ∧ Q (.int (kvs.length : Nat)) H
def rLenD1 : DC := fun ds M P => ∃ p kvs, ds = [.ptr p] ∧ M p = some (.dic kvs) ∧ P (.int (kvs.length : Nat)) M
instance cb_lenD : CbD rLenDK rLenD1 := ⟨fun S M H vs ds P Q w hv h k => by
  obtain ⟨p, kvs, rfl, hm, p1⟩ := h
  match vs, hv with
  | [v], .cons h1 .nil =>
    cases h1
    obtain ⟨_, ws, ha, hk, hs⟩ := w.mem p _ hm
    exact ⟨p, ws, rfl, ha, by rw [len_held hk]; exact k _ _ _ _ _ p1 .refl w (.int _)⟩⟩
instance ip_IC1 {C : Int → Int → Prop} {f : Int → Int → V} {g : Int → Int → D} [F : VD f g] : IpD (rI C f) (rIC1 C g) := ⟨fun S M H x y dx dy P Q w hx hy h k => by
  obtain ⟨i, j, rfl, rfl, c, p⟩ := h
  cases hx; cases hy
  exact ⟨i, j, rfl, rfl, c, k _ S M _ H p .refl w (F.run S H i j)⟩⟩
section
variable {S S' : Addr → Prop} {M M' M0 : Mem} {H H' : Hp}
theorem Step.less (t : Step S M H S' M' H') (l : Mle M0 M') : Step S M H S' M0 H' := ⟨fun b o h e => by
  obtain ⟨e1, h1, s1⟩ := t.keep b o h e
  refine ⟨e1, ?_, s1⟩
  cases z : M0 b with
  | none => rfl
  | some mo => rw [l b mo z] at h1; cases h1⟩
variable {P : Program} {w : World} {K : PySem.W.Frag} {mg : Str → Option Value} {base : Heap} {x qual : Str} {st : Stmt} {f : Addr} {fd : FuncData} {N ps : List Str} {k : Nat} {sp : DC}
theorem mle_refl : Mle M M := fun _ _ h => h
theorem mle_set {a : Addr} {o : MO} (h : M a = none) : Mle M (mset M a o) := fun b mo e => by
  rw [mset_ne (fun z => by rw [z, h] at e; cases e)]
  exact e
end
end V
namespace V
open PySem PySem.Spec PyProof.Rows L2 U StX
theorem cd_get {x : Str} {i c : Nat} (h : x.cps[i]? = some c) : (cd x)[i]? = some c := by
  show x.cps.toList[i]? = some c
  rw [Array.getElem?_toList]; exact h
def ItzLS (K : PySem.W.Frag) (a : Addr) (x : Str) : It :=
  ⟨fun i H => ∃ (xs : List V) (v : V), SqL K H a xs ∧ xs[i]? = some v ∧ i < (cd x).length,
    fun i H v H' => ∃ T y c, v = .ref T ∧ H T = none ∧ H' = upd H T (.tup [y, .str (one c)]) ∧ (∀ xs, SqL K H a xs → xs[i]? = some y) ∧ (cd x)[i]? = some c,
    fun i H => ∃ xs : List V, SqL K H a xs ∧ i ≤ xs.length ∧ i ≤ (cd x).length ∧ (i = xs.length ∨ i = (cd x).length)⟩
def iZipLS (K : PySem.W.Frag) (ta : TA) : TI := fun σ H R => ta σ H fun vs H1 => ∃ a x xs, vs = [.ref a, .str x] ∧ SqL K H1 a xs ∧ R (ItzLS K a x) H1
/-- over data -/
def diZS (a : DA) : DI := fun δ M P => a δ M fun vs M1 => ∃ xs z, vs = [.lst xs, .str z] ∧ P (fun _ => True) (zipD xs ((cd z).map sgn)) M1
instance pu_iZS {K : PySem.W.Frag} {tt : TA} {dd : DA} [A : PuA tt dd] : PuI (iZipLS K tt) (diZS dd) := ⟨fun S M σ δ H P R w e h k =>
  A.run S M σ δ H _ _ w e h fun d S1 M1 v H1 p1 t1 w1 h1 => by
    obtain ⟨xs, z, rfl, p1⟩ := p1
    match v, h1 with
    | [.ref a, .str _], .cons h2 (.cons (.str _) .nil) =>
      have sa := stay_lst w1 h2
      obtain ⟨vs, ha, hs⟩ := sa _ _ _ .refl w1 trivial
      have ll : ((cd z).map sgn).length = (cd z).length := List.length_map _
      refine ⟨a, z, vs, rfl, SqL.of ha, k _ _ S1 M1 H1 _ p1 t1 w1 ⟨fun S' M' H' t w' _ => ?_, fun i S' M' H' hi t w' _ => ?_, fun i S' M' H' x H2 hi t w' _ y => ?_⟩⟩
      · obtain ⟨vs, h4, h5⟩ := sa _ _ _ t w' trivial
        refine ⟨vs, SqL.of h4, ?_⟩
        rw [zipD_len, h5.length, ll]
        omega
      · obtain ⟨vs, h4, h5⟩ := sa _ _ _ t w' trivial
        rw [zipD_len, ll] at hi
        have l1 := h5.length
        exact ⟨vs, vs[i], SqL.of h4, at_some (by omega), by omega⟩
      · obtain ⟨vs, h4, h5⟩ := sa _ _ _ t w' trivial
        obtain ⟨T, y0, c, rfl, nT, rfl, q1, q2⟩ := y
        obtain ⟨d, e1, e2⟩ := h5.getV (q1 vs (SqL.of h4))
        have e3 : ((cd z).map sgn)[i]? = some (.str (one c)) := by
          rw [List.getElem?_map, q2]
          rfl
        exact ⟨Same.new nT, _, zipD_get e1 e3, .tup (w'.ns nT) upd_same (.cons (e2.sm (Same.new nT)) (.cons (.str _) .nil))⟩⟩
end V
namespace V
open PySem PySem.Spec PyProof.Rows L2 U StX
def ItzSS (y x : Str) : It :=
  ⟨fun i H => i < (cd y).length ∧ i < (cd x).length,
    fun i H v H' => ∃ T e c, v = .ref T ∧ H T = none ∧ H' = upd H T (.tup [.str (one e), .str (one c)]) ∧ (cd y)[i]? = some e ∧ (cd x)[i]? = some c,
    fun i H => i ≤ (cd y).length ∧ i ≤ (cd x).length ∧ (i = (cd y).length ∨ i = (cd x).length)⟩
def iZipSS (K : PySem.W.Frag) (ta : TA) : TI := fun σ H R => ta σ H fun vs H1 => ∃ y x, vs = [.str y, .str x] ∧ R (ItzSS y x) H1
def diZSS (a : DA) : DI := fun δ M P => a δ M fun vs M1 => ∃ y z, vs = [.str y, .str z] ∧ P (fun _ => True) (zipD ((cd y).map sgn) ((cd z).map sgn)) M1
instance pu_iZSS {K : PySem.W.Frag} {tt : TA} {dd : DA} [A : PuA tt dd] : PuI (iZipSS K tt) (diZSS dd) := ⟨fun S M σ δ H P R w e h k =>
  A.run S M σ δ H _ _ w e h fun d S1 M1 v H1 p1 t1 w1 h1 => by
    obtain ⟨y, z, rfl, p1⟩ := p1
    match v, h1 with
    | [.str _, .str _], .cons (.str _) (.cons (.str _) .nil) =>
      have l1 : ((cd y).map sgn).length = (cd y).length := List.length_map _
      have l2 : ((cd z).map sgn).length = (cd z).length := List.length_map _
      refine ⟨y, z, rfl, k _ _ S1 M1 H1 _ p1 t1 w1 ⟨fun S' M' H' t w' _ => ?_, fun i S' M' H' hi t w' _ => ?_, fun i S' M' H' x H2 hi t w' _ q => ?_⟩⟩
      · rw [zipD_len, l1, l2]
        show _ ≤ _ ∧ _ ≤ _ ∧ _
        omega
      · rw [zipD_len, l1, l2] at hi
        show _ < _ ∧ _ < _
        omega
      · obtain ⟨T, e, c, rfl, nT, rfl, q1, q2⟩ := q
        have e1 : ((cd y).map sgn)[i]? = some (.str (one e)) := by
          rw [List.getElem?_map, q1]
          rfl
        have e3 : ((cd z).map sgn)[i]? = some (.str (one c)) := by
          rw [List.getElem?_map, q2]
          rfl
        exact ⟨Same.new nT, _, zipD_get e1 e3, .tup (w'.ns nT) upd_same (.cons (.str _) (.cons (.str _) .nil))⟩⟩
theorem dtA_upd {S : Addr → Prop} {H : Hp} {v : V} {d : D} (h : Dt S H v d) : ∀ {vs : List V} {ds : List D} (j : Nat), DtA S H vs ds → DtA S H (vs.set j v) (ds.set j d)
  | _, _, _, .nil => .nil
  | _, _, 0, .cons _ h2 => .cons h h2
  | _, _, j + 1, .cons h1 h2 => .cons h1 (dtA_upd h j h2)
/-- xs[i] = v -/
def dgSub (a b : DE) : DG := fun d δ M P => a δ M fun x M1 => b δ M1 fun y M2 => ∃ p xs k j, x = .ptr p ∧ y = .int k ∧ M2 p = some (.lst xs) ∧ ixN xs.length k = some j ∧ P δ (mset M2 p (.lst (xs.set j d)))
instance pu_gSub {ta tb : TE} {da db : DE} [A : PuE ta da] [B : PuE tb db] : PuG (gSub ta tb rSetL) (dgSub da db) [] := ⟨fun S M σ δ H v d P R w e h p k =>
  A.run S M σ δ H _ _ w e p fun x S1 M1 v1 H1 p1 t1 w1 h1 => B.run S1 M1 σ δ H1 _ _ w1 (e.step w t1) p1 fun y S2 M2 v2 H2 p2 t2 w2 h2 => by
    obtain ⟨q, xs, n, j, rfl, rfl, hm, hj, p2⟩ := p2
    cases h2
    have h1 := dt_step w1 t2 _ h1
    cases h1
    obtain ⟨sq, vs, ha, hs⟩ := w2.mem q _ hm
    have hv := dt_step w (t1.trans t2) _ h
    have ex : Ext S2 H2 (upd H2 q (.lst (vs.set j v))) := Ext.mut (Ext.refl _) sq
    have t4 : Step S M H S2 (mset M2 q (.lst (xs.set j d))) (upd H2 q (.lst (vs.set j v))) := (t1.trans t2).trans (.change hm)
    exact ⟨q, vs, n, j, rfl, rfl, ha, by rw [hs.length]; exact hj, k δ S2 _ σ _ p2 t4 (w2.change hm ⟨_, upd_same, (dtA_upd hv j hs).go ex⟩) (e.step w t4) fun _ _ => rfl⟩⟩
def rGtD (K : PySem.W.Frag) : R2 := fun x y H Q => ∃ d e, Dp K H x d ∧ Dp K H y e ∧ PySem.W.alike d e = true ∧ d ≠ .none ∧ min d.depth e.depth < 64 ∧ Q (.bl (PySem.W.dataLt e d)) H
def rGtP1 : DR := fun x y M P => ∃ (n m : Int) (z u : Str), x = .tup [.int n, .str z] ∧ y = .tup [.int m, .str u] ∧ P (.bl (if m = n then decide (cd u < cd z) else decide (m < n))) M
instance op_gtP1 {K : PySem.W.Frag} : OpD (rGtD K) rGtP1 := ⟨fun S M H x y dx dy P Q w hx hy h k => by
  obtain ⟨n, m, z, u, rfl, rfl, p⟩ := h
  have e1 : D.py (.tup [.int n, .str z]) = some (.tuple [.int n, .str z]) := by simp [D.py, D.pys]
  have e2 : D.py (.tup [.int m, .str u]) = some (.tuple [.int m, .str u]) := by simp [D.py, D.pys]
  refine ⟨_, _, Dt.dp _ hx e1, Dt.dp _ hy e2, by simp [PySem.W.alike, PySem.W.alikeAll], by simp, by simp [PyData.depth, PyData.depthAll], ?_⟩
  rw [lt_np]
  exact k _ S M _ H p .refl w (.bl _)⟩
end V
namespace V
open PySem PySem.Spec PyProof.Rows L2 U StX
end V
namespace V
open PySem PySem.Spec PyProof.Rows L2 U StX
end V
namespace V
open PySem PySem.Spec PyProof.Rows L2 U StX
end V
namespace V
open PySem PySem.Spec PyProof.Rows L2 U StX
structure PyBg (W k : Nat) (p : PyData) : Prop where
  lay : p.canLay0 = true
  itx : PyData.intsShort 1000 p = true
  sh : PyData.showable p = true
  nd : PyData.hasDict p = false
  dep : PyData.depth p ≤ k
  wt : PyData.weight p ≤ W
structure PysBg (W k : Nat) (ps : List PyData) : Prop where
  lay : PyData.canLayAll0 ps = true
  itx : PyData.intsShortAll 1000 ps = true
  sh : PyData.showableAll ps = true
  nd : PyData.hasDictAll ps = false
  dep : PyData.depthAll ps ≤ k
  wt : PyData.weightAll ps ≤ W
theorem PysBg.nil (W k : Nat) : PysBg W k [] := ⟨rfl, rfl, rfl, rfl, Nat.zero_le _, Nat.zero_le _⟩
theorem PysBg.cons {W W' k : Nat} {p : PyData} {ps : List PyData} (a : PyBg W k p) (b : PysBg W' k ps) : PysBg (W + 1 + W') k (p :: ps) := by
  obtain ⟨a1, a2, a3, a4, a5, a6⟩ := a
  obtain ⟨b1, b2, b3, b4, b5, b6⟩ := b
  refine ⟨?_, ?_, ?_, ?_, ?_, ?_⟩
  · rw [PyData.canLayAll0, a1, b1]; rfl
  · rw [PyData.intsShortAll, a2, b2]; rfl
  · rw [PyData.showableAll, a3, b3]; rfl
  · rw [PyData.hasDictAll, a4, b4]; rfl
  · rw [PyData.depthAll]; omega
  · rw [PyData.weightAll]; omega
theorem PyBg.mono {W W' k k' : Nat} {p : PyData} (a : PyBg W k p) (h : W ≤ W') (h2 : k ≤ k') : PyBg W' k' p := ⟨a.lay, a.itx, a.sh, a.nd, Nat.le_trans a.dep h2, Nat.le_trans a.wt h⟩
theorem PysBg.list {W k : Nat} {ps : List PyData} (a : PysBg W k ps) : PyBg W (k + 1) (.list ps) :=
  ⟨by rw [PyData.canLay0]; exact a.lay, by rw [PyData.intsShort]; exact a.itx, by rw [PyData.showable]; exact a.sh, by rw [PyData.hasDict]; exact a.nd, by rw [PyData.depth]; have := a.dep; omega, by rw [PyData.weight]; exact a.wt⟩
theorem PysBg.tuple {W k : Nat} {ps : List PyData} (a : PysBg W k ps) : PyBg W (k + 1) (.tuple ps) :=
  ⟨by rw [PyData.canLay0]; exact a.lay, by rw [PyData.intsShort]; exact a.itx, by rw [PyData.showable]; exact a.sh, by rw [PyData.hasDict]; exact a.nd, by rw [PyData.depth]; have := a.dep; omega, by rw [PyData.weight]; exact a.wt⟩
theorem PyBg.int {i : Int} {b : Nat} (h : i.natAbs < 2 ^ b) (h0 : 0 < b) (hb : b ≤ 900) : PyBg b 0 (.int i) := by
  have l : i.natAbs.log2 < b := by
    by_cases z : i.natAbs = 0
    · rw [z]; exact h0
    · exact (Nat.log2_lt z).mpr h
  refine ⟨rfl, ?_, ?_, rfl, by rw [PyData.depth]; exact Nat.le_refl _, ?_⟩
  · rw [PyData.intsShort]
    have e := int_text_length_le (k := b) h0 l
    refine decide_eq_true ?_
    show (Str.ofString (toString i)).length ≤ 1000
    rw [PySem.ofString_length]
    omega
  · rw [PyData.showable]
    exact decide_eq_true (by omega)
  · rw [PyData.weight]
    split <;> omega
def bgP (W k : Nat) (d : D) : Prop := ∃ p, D.py d = some p ∧ PyBg W k p
def bgPs (W k : Nat) (ds : List D) : Prop := ∃ ps, D.pys ds = some ps ∧ PysBg W k ps
theorem bgPs.nil (W k : Nat) : bgPs W k [] := ⟨[], by rw [D.pys], .nil _ _⟩
theorem bgPs.cons {W W' k : Nat} {d : D} {ds : List D} : bgP W k d → bgPs W' k ds → bgPs (W + 1 + W') k (d :: ds) := fun ⟨p, e, a⟩ ⟨ps, e2, b⟩ => ⟨p :: ps, by rw [D.pys, e, e2], .cons a b⟩
theorem bgPs.all {W k : Nat} : ∀ {ds : List D}, (∀ d ∈ ds, bgP W k d) → bgPs (ds.length * (W + 1)) k ds
  | [], _ => bgPs.nil _ _
  | d :: ds, h => by
    obtain ⟨ps, e, a⟩ := bgPs.cons (h d List.mem_cons_self) (bgPs.all fun x hx => h x (List.mem_cons_of_mem _ hx))
    have q : (ds.length + 1) * (W + 1) = W + 1 + ds.length * (W + 1) := by rw [Nat.add_mul, Nat.one_mul, Nat.add_comm]
    rw [List.length_cons, q]
    exact ⟨ps, e, a⟩
theorem bgPs.list {W k : Nat} {ds : List D} : bgPs W k ds → bgP W (k + 1) (.lst ds) := fun ⟨ps, e, a⟩ => ⟨.list ps, by rw [D.py, e]; rfl, a.list⟩
theorem bgPs.tuple {W k : Nat} {ds : List D} : bgPs W k ds → bgP W (k + 1) (.tup ds) := fun ⟨ps, e, a⟩ => ⟨.tuple ps, by rw [D.py, e]; rfl, a.tuple⟩
theorem bgP.mono {W W' k k' : Nat} {d : D} : bgP W k d → W ≤ W' → k ≤ k' → bgP W' k' d := fun ⟨p, e, a⟩ h h2 => ⟨p, e, a.mono h h2⟩
theorem bgP.int {i : Int} {b : Nat} (h : i.natAbs < 2 ^ b) (h0 : 0 < b := by decide) (hb : b ≤ 900 := by decide) : bgP b 0 (.int i) := ⟨_, by rw [D.py], .int h h0 hb⟩
theorem bgP.bl (b : Bool) : bgP 0 0 (.bl b) := ⟨_, by rw [D.py], ⟨rfl, rfl, rfl, rfl, by rw [PyData.depth]; exact Nat.le_refl _, by rw [PyData.weight]; exact Nat.le_refl _⟩⟩
theorem bgP.non : bgP 0 0 .non := ⟨_, by rw [D.py], ⟨rfl, rfl, rfl, rfl, by rw [PyData.depth]; exact Nat.le_refl _, by rw [PyData.weight]; exact Nat.le_refl _⟩⟩
theorem bgP.str {z : Str} {n : Nat} (h : ∀ c ∈ cd z, c < 0x110000) (hn : (cd z).length ≤ n) : bgP n 0 (.str z) := by
  refine ⟨_, by rw [D.py], ?_, rfl, rfl, rfl, by rw [PyData.depth]; exact Nat.le_refl _, ?_⟩
  · rw [PyData.canLay0]
    unfold PyData.strOk
    rw [← Array.all_toList, List.all_eq_true]
    exact fun c hc => decide_eq_true (h c hc)
  · rw [PyData.weight]
    rw [cd_len] at hn
    exact hn
end V
namespace V
open PySem PySem.Spec PyProof.Rows L2 U StX
instance pu_revT {K : PySem.W.Frag} {ta : TE} {da : DE} [A : PuE ta da] : PuE (tRevT K ta) (dRevT da) := ⟨fun S M σ δ H P Q w e h k =>
  A.run S M σ δ H _ _ w e h fun d S1 M1 v H1 p1 t1 w1 h1 => by
    obtain ⟨xs, rfl, p1⟩ := p1
    cases h1 with
    | @tup a vs _ n ha hs =>
      exact ⟨a, vs, rfl, SqT.of ha, fun p np => k _ S1 M1 _ _ p1 (t1.trans (.new np)) (w1.new np) (.tup (w1.ns np) upd_same (hs.reverse.sm (Same.new np)))⟩⟩
end V
namespace V
open PySem PySem.Spec PyProof.Rows L2 U StX
def dCallL (i : Nat) (f : Addr) (sp : DC) (t : DA) : DE := fun δ M P => δ[i]? = some (some (.ptr f)) ∧ t δ M fun ds M1 => sp ds M1 P
instance pu_callL {i : Nat} {f : Addr} {sp : DC} {E : XK} {t : TA} {dt : DA} [A : PuA t dt] : PuE (tCallL i f (lift sp) [] E t) (dCallL i f sp dt) := ⟨fun S M σ δ H P Q w e h k => by
  obtain ⟨v, hv, hd⟩ := e.at_ i _ h.1
  cases hd
  exact ⟨hv, A.run S M σ δ H _ _ w e h.2 fun ds S1 M1 vs H1 p1 t1 w1 h1 => by
    rw [List.append_nil]
    exact ⟨S1, M1, ds, P, w1, h1, p1, k.go t1⟩⟩⟩
def iKT (K : PySem.W.Frag) (a : Addr) (l : List Str) : TI := fun σ H R => (∀ H, SqT K H a (l.map V.str)) → iTup K (tC (.ref a)) σ H R
def diKT (l : List Str) : DI := fun _ M P => P (fun _ => True) (l.map D.str) M
theorem walks_KT {S : Addr → Prop} {M : Mem} {H : Hp} {K : PySem.W.Frag} {a : Addr} {l : List Str} {G : Mem → Prop} (q : ∀ H, SqT K H a (l.map V.str)) : Walks (Itt K a) G S M H (l.map D.str) where
  stop S' M' H' t w g := ⟨_, q H', by rw [List.length_map, List.length_map]; exact Nat.le_refl _⟩
  go i S' M' H' hi t w g := ⟨l.map V.str, (l.map V.str)[i]'(by rw [List.length_map] at hi ⊢; exact hi), q H', at_some _⟩
  yld i S' M' H' x H2 hi t w g y := by
    obtain ⟨rfl, y⟩ := y
    have y := y _ (q H2)
    rw [List.getElem?_map] at y
    obtain ⟨z, hz, rfl⟩ := Option.map_eq_some_iff.mp y
    exact ⟨Same.refl _, .str z, by rw [List.getElem?_map, hz]; rfl, .str z⟩
instance pu_iKT {K : PySem.W.Frag} {a : Addr} {l : List Str} : PuI (iKT K a l) (diKT l) := ⟨fun S M σ δ H P R w e h k q => ⟨a, rfl, ⟨_, q H⟩, k _ _ S M H _ h .refl w (walks_KT q)⟩⟩
def tLcM (wi : TI) (g : TG) (tt : TT) (te : TE) (vs : List Nat) : TE := tLc wi g tt te vs
def thawP (P : QD) : QD := fun d M1 => ∃ xs, d = .lst xs ∧ ∀ a, M1 a = none → P (.ptr a) (mset M1 a (.lst xs))
def dLcM (i : DI) (g : DG) (t : DT) (a : DE) (vs : List Nat) : DE := fun δ M P => dLc i g t a vs δ M (thawP P)
instance pu_lcM {ti : TI} {g : TG} {t : TT} {ta : TE} {di : DI} {dg : DG} {dt : DT} {da : DE} {sl vs : List Nat} [I : PuI ti di] [A : PuG g dg sl] [sub : SubL sl vs] [T : PuT t dt] [B : PuE ta da] : PuE (tLcM ti g t ta vs) (dLcM di dg dt da vs) := ⟨fun S M σ δ H P Q w e h k =>
  I.run S M σ δ H _ _ w e h fun G xs S1 M1 H1 J p1 t1 w1 wk => by
    intro D0 hD
    obtain ⟨g1, hn, p1⟩ := p1
    -- what stands between the turns
    let Iv : Nat → Hp → Prop := fun i H' => ∃ S' M' acc ws, G M' ∧ dGather G dg dt da vs δ (thawP P) (xs.drop i) acc M' ∧ Step S1 M1 H1 S' M' H' ∧ Wo S' M' H' ∧ En S' H' σ δ ∧ S' D0 ∧ M' D0 = none ∧ H' D0 = some (.lst ws) ∧ DtA S' H' ws acc ∧ acc.length ≤ i
    refine ⟨fun i m H' => i ≤ xs.length ∧ m = xs.length - i ∧ Iv i H', ⟨_, Nat.zero_le _, rfl, (fun a => S1 a ∨ a = D0), M1, [], [], g1, p1, .apart hD, w1.apart hD, (e.step w t1).step w1 (.apart hD), .inr rfl, w1.fresh hD, upd_same, .nil, Nat.zero_le _⟩, ?_⟩
    rintro i m H2 ⟨hi, rfl, S2, M2, acc, ws, g2, p2, t2, w2, e2, sD, mD, hL, hA, hlen⟩
    by_cases hlt : i < xs.length
    · refine .inr ⟨wk.go i S2 M2 H2 hlt t2 w2 g2, Iv (i + 1), fun H' q => ⟨_, by omega, hlt, rfl, q⟩, ?_⟩
      intro x H3 y
      obtain ⟨same, d, hd, hx⟩ := wk.yld i S2 M2 H2 x H3 hlt t2 w2 g2 y
      rw [drop_cons hd] at p2
      have t3 : Step S2 M2 H2 S2 M2 H3 := .same same
      have w3 := w2.same same
      have e3 := e2.step w2 t3
      refine A.run S2 M2 _ _ H3 x d _ _ w3 (e3.wipe vs) hx p2 fun δ4 S4 M4 σ4 H4 p4 t4 w4 e4 o4 => ⟨by rw [o4 vs sub.h, wipe_wipe], ?_⟩
      refine T.run S4 M4 σ4 δ4 H4 _ _ w4 e4 p4 fun b S5 M5 H5 p5 t5 w5 => ?_
      have t25 := (t3.trans t4).trans t5
      obtain ⟨hL5, mD5, sD5⟩ := t25.keep _ _ mD hL
      have hA5 := dtA_step w2 t25 _ hA
      cases b with
      | true =>
        rw [if_pos rfl] at p5 ⊢
        refine B.run S5 M5 σ4 δ4 H5 _ _ w5 (e4.step w4 t5) p5 fun y S6 M6 v H6 p6 t6 w6 h6 => ?_
        obtain ⟨hL6, mD6, sD6⟩ := t6.keep _ _ mD5 hL5
        have hA6 := dtA_step w5 t6 _ hA5
        have sd : S6 D0 := sD6.mpr (sD5.mpr sD)
        have ex : Ext S6 H6 (upd H6 D0 (.lst (ws ++ [v]))) := Ext.mut (Ext.refl _) sd
        refine ⟨ws, hL6, by rw [hA.length]; exact Nat.lt_of_le_of_lt hlen (Nat.lt_of_lt_of_le hlt (by rw [sizeLine_eq]; exact hn)), S6, M6, acc ++ [y], ws ++ [v], p6.1, p6.2, ?_, ?_, ?_, sd, mD6, upd_same, (hA6.snoc h6).go ex, by rw [List.length_append, List.length_singleton]; omega⟩
        · have t16 := (t2.trans t25).trans t6
          refine ⟨fun b o n hb => ?_⟩
          obtain ⟨q1, q2, q3⟩ := t16.keep b o n hb
          exact ⟨(upd_ne (ne_of_none hb hD)).trans q1, q2, q3⟩
        · refine ⟨fun a s => ?_, fun a mo q => ?_⟩
          · by_cases c : a = D0
            · rw [c, upd_same]; exact fun z => nomatch z
            · rw [upd_ne c]; exact w6.tr a s
          · obtain ⟨s, q2⟩ := w6.mem a mo q
            have c : a ≠ D0 := by rintro rfl; rw [mD6] at q; cases q
            exact ⟨s, held_ext ex (fun u hu => (upd_ne c).trans hu) q2⟩
        · have e6 : En S6 H6 σ δ := e3.step w3 ((t4.trans t5).trans t6)
          exact ⟨e6.len, fun i d h => by
            obtain ⟨v, h1, h2⟩ := e6.at_ i d h
            exact ⟨v, h1, h2.go ex⟩⟩
      | false =>
        rw [if_neg Bool.false_ne_true] at p5 ⊢
        exact ⟨S5, M5, acc, ws, p5.1, p5.2, t2.trans t25, w5, e2.step w2 t25, sD5.mpr sD, mD5, hL5, hA5, by omega⟩
    · have ei : i = xs.length := by omega
      subst ei
      rw [List.drop_length] at p2
      obtain ⟨zs, ez, p2⟩ := p2
      cases ez
      refine .inl ⟨wk.stop S2 M2 H2 t2 w2 g2, k (.ptr D0) S2 (mset M2 D0 (.lst acc)) _ H2 (p2 D0 mD) (t1.trans ⟨fun b o n hb => ?_⟩) ⟨w2.tr, fun a mo q => ?_⟩ (.ptr D0)⟩
      · obtain ⟨q1, q2, q3⟩ := t2.keep b o n hb
        exact ⟨q1, (mset_ne (ne_of_none hb hD)).trans q2, q3⟩
      · by_cases c : a = D0
        · subst c
          rw [mset_same] at q
          cases q
          exact ⟨sD, ws, hL, hA⟩
        · rw [mset_ne c] at q
          exact w2.mem a mo q⟩
def rInX (K : PySem.W.Frag) (neg : Bool) : R2 := fun x y H Q => ∃ p ps, Dp K H x p ∧ Dp K H y (.list ps) ∧ p.canLay0 = true ∧ PyData.depth p ≤ 40 ∧ PyData.canLayAll0 ps = true ∧ Q (.bl ((ps.any fun z => PyData.eqv z p) != neg)) H
theorem any_py {x : D} {p : PyData} (hp : D.py x = some p) : ∀ {xs : List D} {ps : List PyData}, D.pys xs = some ps → (ps.any fun z => PyData.eqv z p) = xs.any fun z => D.eqb z x
  | [], ps, h => by rw [D.pys] at h; cases h; rfl
  | d :: ds, ps, h => by
    obtain ⟨q, qs, h1, h2, rfl⟩ := pys_cons h
    rw [List.any_cons, List.any_cons, eqv_py d x q p h1 hp, any_py hp h2]
def rInX1 (neg : Bool) : DR := fun x y M P => ∃ xs W k W' k', isLs M y xs ∧ okP W k x ∧ k ≤ 40 ∧ okPs W' k' xs ∧ P (.bl ((xs.any fun z => D.eqb z x) != neg)) M
instance op_inX1 {K : PySem.W.Frag} {neg : Bool} : OpD (rInX K neg) (rInX1 neg) := ⟨fun S M H x y dx dy P Q w hx hy h k => by
  obtain ⟨xs, W, n, W', n', hs, ⟨p, ep, op⟩, hn, ⟨ps, eps, ops⟩, hp⟩ := h
  have e : D.py (.lst xs) = some (.list ps) := by rw [D.py, eps]; rfl
  have hv : vw M dy = .lst xs := by
    rcases hs with rfl | ⟨a, rfl, ha⟩
    · rfl
    · unfold vw; simp only [ha]
  have hl : Dp K H y (.list ps) := dt_vw w hy (by rw [hv]; exact e)
  refine ⟨p, ps, Dt.dp _ hx ep, hl, op.lay, Nat.le_trans op.dep hn, ops.lay, k _ S M _ H ?_ .refl w (.bl _)⟩
  rw [any_py ep eps]
  exact hp⟩
section
variable {P : Program} {w : World} {K : PySem.W.Frag} {mg : Str → Option Value} {base : Heap} {x qual : Str} {st : Stmt} {f : Addr} {fd : FuncData} {N ps : List Str} {k : Nat} {sp : DC}
theorem fnDX (F : L2.Fun K x qual st f fd) (S : FnScope N ps (L2.defScope st)) (len : ∀ ds M P, sp ds M P → ds.length = ps.length)
    (hb : ∀ (cdv : Value) (A : Around) (outer : List Env) (s : Shared) (H : Hp) (E : XK), Room k (A.deeper (envOfC qual (L2.defScope st) s.heap.objs.size f cdv)) → A.guards = some [] →
      ∃ t, PSs (cxOf L2.CX0 P w K mg base N qual (L2.defScope st) f cdv A outer s H E).nox (L2.defBody st) t ∧ ∃ dt, PuS t dt ∧ ∀ ds M R, sp ds M R → dt (fun _ M' => ∃ M0, Mle M0 M' ∧ R .non M0) (fun d M' => ∃ M0, Mle M0 M' ∧ R d M0) (fun _ _ => False) (fun _ _ => False) (startD N ds) M) :
    FnG P w K mg base (k + 1) f fd ps (lift sp) :=
  fnG_of F S (liftLen len) fun cdv A outer s H vs Q E hr hg h => by
    obtain ⟨t, ht, dt, A, go⟩ := hb cdv A outer s H E hr hg
    refine ⟨t, ht, ?_⟩
    obtain ⟨S, M, ds, R, w, h, p, k⟩ := h
    refine A.run S M _ _ H _ _ _ _ _ w (en_start N h) (go ds M R p) ⟨fun δ' S' M' σ' H' q t w e => ?_, ?_, fun _ _ _ _ _ q => q.elim, fun _ _ _ _ _ q => q.elim⟩
    · obtain ⟨M0, l, q⟩ := q
      exact k _ S' M0 _ H' q (t.less l) (w.drop l) .non
    · rintro d S' M' v H' ⟨M0, l, q⟩ t w' hv
      exact k d S' M0 v H' q (t.less l) (w'.drop l) hv
end
end V
namespace V
open PySem PySem.Spec PyProof.Rows L2 U StX
/-- how many different numbers -/
def dcn (ns : List Int) : Nat := (firstMet (fun i => ns.getD i 0) ns.length).length
def tLenSetG (K : PySem.W.Frag) (ta : TE) : TE := fun σ H Q => ta σ H fun x H1 => ∃ l ns, x = V.ref l ∧ SqL K H1 l (ns.map V.int) ∧ ns.length ≤ 4000 ∧ Q (V.int (dcn ns : Nat)) H1
def dLenSetG (a : DE) : DE := fun δ M P => a δ M fun x M1 => ∃ ns, isLs M1 x (ns.map D.int) ∧ ns.length ≤ 4000 ∧ P (.int (dcn ns : Nat)) M1
instance pu_lenSetG {K : PySem.W.Frag} {ta : TE} {da : DE} [A : PuE ta da] : PuE (tLenSetG K ta) (dLenSetG da) := ⟨fun S M σ δ H P Q w e h k =>
  A.run S M σ δ H _ _ w e h fun d S1 M1 v H1 p1 t1 w1 h1 => by
    obtain ⟨ns, h2, hn, p1⟩ := p1
    obtain ⟨a, us, rfl, ha, hs⟩ := ls_get w1 h1 h2
    have eu := hs.ints_eq
    subst eu
    exact ⟨a, ns, rfl, SqL.of ha, hn, k _ S1 M1 _ H1 p1 t1 w1 (.int _)⟩⟩
theorem dtA_keys {S : Addr → Prop} {H : Hp} : ∀ ks : List Key, DtA S H (ks.map kV) (ks.map kD)
  | [] => .nil
  | k :: ks => .cons (by cases k with
    | inl i => exact .int i
    | inr z => exact .str z) (dtA_keys ks)
def rListDK1 : DC := fun ds M P => ∃ p kvs, ds = [.ptr p] ∧ M p = some (.dic kvs) ∧ P (.lst (kvs.map fun kv => kD kv.1)) M
instance cb_listDK : CbD rListD rListDK1 := ⟨fun S M H vs ds P Q w hv h k => by
  obtain ⟨p, kvs, rfl, hm, p1⟩ := h
  match vs, hv with
  | [v], .cons h1 .nil =>
    cases h1
    obtain ⟨_, ws, ha, hk, hs⟩ := w.mem p _ hm
    refine ⟨p, ws, rfl, ha, fun q nq => k _ S M _ _ p1 (.new nq) (w.new nq) (.lst (w.ns nq) upd_same ?_)⟩
    have e1 : (ws.map fun kv => kV kv.1) = (ws.map (·.1)).map kV := by rw [List.map_map]; rfl
    have e2 : (kvs.map fun kv => kD kv.1) = (kvs.map (·.1)).map kD := by rw [List.map_map]; rfl
    rw [e1, e2, hk]
    exact dtA_keys _⟩
end V
namespace V
open PySem PySem.Spec PyProof.Rows L2 U StX
end V
namespace V
open PySem PySem.Spec PyProof.Rows L2 U StX
/-- the places of xs[::k] -/
def stepJ (k : Int) (n : Nat) : List Nat := sliceRange (sliceBounds none none (some k) n).1 (sliceBounds none none (some k) n).2.1 (sliceBounds none none (some k) n).2.2
def stepG {α : Type} (k : Int) (xs : List α) : List α := (stepJ k xs.length).filterMap fun j => xs[j]?
theorem dtA_picked {S : Addr → Prop} {H : Hp} {vs : List V} {ds : List D} (h : DtA S H vs ds) : ∀ js : List Nat, DtA S H (js.filterMap fun j => vs[j]?) (js.filterMap fun j => ds[j]?)
  | [] => .nil
  | j :: js => by
    have ih := dtA_picked h js
    rw [List.filterMap_cons, List.filterMap_cons]
    cases e : ds[j]? with
    | none =>
      have : vs[j]? = none := List.getElem?_eq_none (by rw [h.length]; exact List.getElem?_eq_none_iff.mp e)
      rw [this]
      exact ih
    | some d =>
      obtain ⟨v, h1, h2⟩ := h.get e
      rw [h1]
      exact .cons h2 ih
def tStepL (K : PySem.W.Frag) (k : Int) (te : TE) : TE := fun σ H Q => te σ H fun x H1 => ∃ a xs, x = V.ref a ∧ SqL K H1 a xs ∧ ∀ p, H1 p = none → Q (V.ref p) (upd H1 p (.lst (stepG k xs)))
def dStepL (k : Int) (a : DE) : DE := fun δ M P => a δ M fun x M1 => ∃ xs, isLs M1 x xs ∧ P (.lst (stepG k xs)) M1
instance pu_stepL {K : PySem.W.Frag} {k : Int} {ta : TE} {da : DE} [A : PuE ta da] : PuE (tStepL K k ta) (dStepL k da) := ⟨fun S M σ δ H P Q w e h kk =>
  A.run S M σ δ H _ _ w e h fun d S1 M1 v H1 p1 t1 w1 h1 => by
    obtain ⟨xs, h2, p1⟩ := p1
    obtain ⟨a, vs, rfl, ha, hs⟩ := ls_get w1 h1 h2
    refine ⟨a, vs, rfl, SqL.of ha, fun p np => kk _ S1 M1 _ _ p1 (t1.trans (.new np)) (w1.new np) (.lst (w1.ns np) upd_same ?_)⟩
    unfold stepG
    rw [hs.length]
    exact (dtA_picked hs _).sm (Same.new np)⟩
end V
namespace V
open PySem PySem.Spec PyProof.Rows L2 U StX
/-- x != y of two instances: what __eq__ says, the other way -/
def rNeOwn (C : Addr) (sp : Sp) : R2 := fun x y H Q => ∃ a b dx dy fs gs, x = V.ref a ∧ y = V.ref b ∧ H a = some (.ins C dx fs) ∧ H b = some (.ins C dy gs) ∧ sp [.ref a, .ref b] H (fun v H' => ∃ t, v = V.bl t ∧ Q (.bl (!t)) H') L2.E0
def rNeOwnD (C : Addr) (sp : DC) : DR := fun x y M P => (∃ n1 x1 n2 x2, x = .ins C n1 x1 ∧ y = .ins C n2 x2) ∧ sp [x, y] M fun d M' => ∃ t, d = .bl t ∧ P (.bl (!t)) M'
instance op_neOwnD {C : Addr} {sp : DC} : OpD (rNeOwn C (lift sp)) (rNeOwnD C sp) := ⟨fun S M H x y dx dy P Q w hx hy h k => by
  obtain ⟨⟨n1, x1, n2, x2, rfl, rfl⟩, h⟩ := h
  have gx := hx
  have gy := hy
  cases hx with
  | ins _ ha _ _ =>
    cases hy with
    | ins _ hb _ _ =>
      refine ⟨_, _, _, _, _, _, rfl, rfl, ha, hb, S, M, _, _, w, .cons gx (.cons gy .nil), h, fun d S' M' v H' p t w' hv => ?_⟩
      obtain ⟨b, rfl, p⟩ := p
      cases hv
      exact ⟨b, rfl, k _ S' M' _ H' p t w' (.bl _)⟩⟩
end V
namespace V
open PySem PySem.Spec PyProof.Rows L2 U StX
def dPairs : List (DE × DE) → Dl → Mem → (List (D × D) → Mem → Prop) → Prop
  | [], _, M, P => P [] M
  | (a, b) :: r, δ, M, P => a δ M fun x M1 => b δ M1 fun y M2 => dPairs r δ M2 fun ps M3 => P ((x, y) :: ps) M3
class PuPs (t : List (TE × TE)) (d : outParam (List (DE × DE))) : Prop where
  run : ∀ S M σ δ H (P : List (D × D) → Mem → Prop) (Q : List (V × V) → Hp → Prop), Wo S M H → En S H σ δ → dPairs d δ M P →
    (∀ ps S' M' vs H', P ps M' → Step S M H S' M' H' → Wo S' M' H' → DtA S' H' (vs.map (·.1)) (ps.map (·.1)) → DtA S' H' (vs.map (·.2)) (ps.map (·.2)) → Q vs H') → tPairs t σ H Q
instance pups_nil : PuPs [] [] := ⟨fun S M σ δ H P Q w e h k => k [] S M [] H h .refl w .nil .nil⟩
instance pups_cons {ta tb : TE} {da db : DE} {t : List (TE × TE)} {d : List (DE × DE)} [A : PuE ta da] [B : PuE tb db] [R : PuPs t d] : PuPs ((ta, tb) :: t) ((da, db) :: d) := ⟨fun S M σ δ H P Q w e h k =>
  A.run S M σ δ H _ _ w e h fun x S1 M1 v H1 p1 t1 w1 h1 =>
    B.run S1 M1 σ δ H1 _ _ w1 (e.step w t1) p1 fun y S2 M2 u H2 p2 t2 w2 h2 =>
      R.run S2 M2 σ δ H2 _ _ w2 (e.step w (t1.trans t2)) p2 fun ps S3 M3 vs H3 p3 t3 w3 h3 h4 =>
        k ((x, y) :: ps) S3 M3 ((v, u) :: vs) H3 p3 ((t1.trans t2).trans t3) w3 (.cons (dt_step w1 (t2.trans t3) _ h1) h3) (.cons (dt_step w2 t3 _ h2) h4)⟩
theorem keys_of {S : Addr → Prop} {H : Hp} : ∀ {vs : List (V × V)} {ks : List Key}, DtA S H (vs.map (·.1)) (ks.map kD) → vs.map (·.1) = ks.map kV
  | [], [], _ => rfl
  | [], _ :: _, h => by cases h
  | _ :: _, [], h => by cases h
  | v :: vs, k :: ks, h => by
    rw [List.map_cons, List.map_cons] at h
    cases h with
    | cons h1 h2 => rw [List.map_cons, List.map_cons, keys_of h2, dt_kD h1]
theorem merge_apart : ∀ (more acc : List (Key × V)), ((acc ++ more).map (·.1)).Nodup → mergeK acc more = acc ++ more
  | [], acc, _ => by rw [List.append_nil]; rfl
  | p :: more, acc, h => by
    show mergeK (putK acc p.1 p.2) more = _
    have no : (acc.any fun kv => decide (kv.1 = p.1)) = false := by
      cases c : acc.any fun kv => decide (kv.1 = p.1) with
      | false => rfl
      | true =>
        obtain ⟨q, hq, e⟩ := List.any_eq_true.mp c
        rw [List.map_append, List.nodup_append] at h
        exact (h.2.2 _ (List.mem_map.mpr ⟨q, hq, rfl⟩) _ (List.mem_map.mpr ⟨p, List.mem_cons_self, rfl⟩) (of_decide_eq_true e)).elim
    have e : putK acc p.1 p.2 = acc ++ [p] := by
      unfold putK
      rw [no, if_neg Bool.false_ne_true]
    rw [e, merge_apart more (acc ++ [p]) (by rw [List.append_assoc]; exact h), List.append_assoc]
    rfl
def dDisp (d : List (DE × DE)) : DE := fun δ M P => ∀ a, M a = none → dPairs d δ (mset M a (.dic [])) fun ps M2 => M2 a = some (.dic []) ∧ ∃ kvs : List (Key × D), ps = kvs.map (fun kv => (kD kv.1, kv.2)) ∧ kvs.length ≤ 15 ∧ (kvs.map (·.1)).Nodup ∧ P (.ptr a) (mset M2 a (.dic kvs))
instance pu_disp {t : List (TE × TE)} {d : List (DE × DE)} [R : PuPs t d] : PuE (tDisp t) (dDisp d) := ⟨fun S M σ δ H P Q w e h k p np => by
  have w1 : Wo (fun a => S a ∨ a = p) (mset M p (.dic [])) (upd H p (.dK [])) := w.mutable np ⟨[], upd_same, rfl, .nil⟩
  have t1 : Step S M H (fun a => S a ∨ a = p) (mset M p (.dic [])) (upd H p (.dK [])) := Step.mutable w np
  refine R.run _ _ σ δ _ _ _ w1 (e.step w t1) (h p (w.fresh np)) fun ps S2 M2 vs H2 p2 t2 w2 h3 h4 => ?_
  obtain ⟨hm, kvs, rfl, hl, nd, p3⟩ := p2
  rw [List.map_map] at h3 h4
  have ek : vs.map (·.1) = (kvs.map (·.1)).map kV := keys_of (by rw [List.map_map]; exact h3)
  have hlen : vs.length = kvs.length := by
    have := congrArg List.length ek
    rwa [List.length_map, List.length_map, List.length_map] at this
  obtain ⟨_, ws0, ha, hk0, _⟩ := w2.mem p _ hm
  have e0 : ws0 = [] := List.map_eq_nil_iff.mp hk0
  subst e0
  let ws : List (Key × V) := (kvs.map (·.1)).zip (vs.map (·.2))
  have wk : ws.map (·.1) = kvs.map (·.1) := by
    show ((kvs.map (·.1)).zip (vs.map (·.2))).map Prod.fst = _
    rw [List.map_fst_zip (by rw [List.length_map, List.length_map]; omega)]
  have wv : ws.map (·.2) = vs.map (·.2) := by
    show ((kvs.map (·.1)).zip (vs.map (·.2))).map Prod.snd = _
    rw [List.map_snd_zip (by rw [List.length_map, List.length_map]; omega)]
  have ev : vs = ws.map fun kv => (kV kv.1, kv.2) := by
    have e1 : (ws.map fun kv => (kV kv.1, kv.2)).map (·.1) = vs.map (·.1) := by
      rw [ek, ← wk, List.map_map, List.map_map]; rfl
    have e2 : (ws.map fun kv => (kV kv.1, kv.2)).map (·.2) = vs.map (·.2) := by
      rw [← wv, List.map_map]; rfl
    have two : ∀ {l m : List (V × V)}, l.map (·.1) = m.map (·.1) → l.map (·.2) = m.map (·.2) → l = m := by
      intro l
      induction l with
      | nil => intro m a b; cases m with
        | nil => rfl
        | cons => cases a
      | cons x l ih => intro m a b; cases m with
        | nil => cases a
        | cons y m =>
          rw [List.map_cons, List.map_cons, List.cons.injEq] at a b
          rw [ih a.2 b.2, Prod.ext a.1 b.1]
    exact (two e1 e2).symm
  have em : mergeK [] ws = ws := merge_apart ws [] (by rw [List.nil_append, wk]; exact nd)
  refine ⟨ha, ws, ev, by rw [← List.length_map (f := Prod.fst), wk, List.length_map]; exact hl, ?_⟩
  rw [em]
  refine k (.ptr p) S2 (mset M2 p (.dic kvs)) _ _ p3 ((t1.trans t2).trans (Step.change hm)) (w2.change hm ⟨ws, upd_same, wk, ?_⟩) (.ptr p)
  rw [wv]
  have h5 : DtA S2 H2 (vs.map (·.2)) (kvs.map (·.2)) := h4
  have ex : U.Ext S2 H2 (upd H2 p (.dK ws)) := Ext.mut (Ext.refl _) (w2.mem p _ hm).1
  exact h5.go ex⟩
end V
namespace V
open PySem PySem.Spec PyProof.Rows L2 U StX
/-- one text more -/
def met1 (l : List Str) (x : Str) : List Str := if x ∈ l then l else l ++ [x]
/-- the texts met, each once -/
def metS (ts : List Str) : List Str := ts.foldl met1 []
def tLenSetS (K : PySem.W.Frag) (ta : TE) : TE := fun σ H Q => ta σ H fun x H1 => ∃ l ts, x = V.ref l ∧ (SqL K H1 l (ts.map V.str) ∨ SqT K H1 l (ts.map V.str)) ∧ ts.length ≤ 4000 ∧ Q (V.int ((metS ts).length : Nat)) H1
def dLenSetS (a : DE) : DE := fun δ M P => a δ M fun x M1 => ∃ ts : List Str, (isLs M1 x (ts.map D.str) ∨ x = .tup (ts.map D.str)) ∧ ts.length ≤ 4000 ∧ P (.int ((metS ts).length : Nat)) M1
instance pu_lenSetS {K : PySem.W.Frag} {ta : TE} {da : DE} [A : PuE ta da] : PuE (tLenSetS K ta) (dLenSetS da) := ⟨fun S M σ δ H P Q w e h k =>
  A.run S M σ δ H _ _ w e h fun d S1 M1 v H1 p1 t1 w1 h1 => by
    obtain ⟨ts, h2, hn, p1⟩ := p1
    rcases h2 with h2 | rfl
    · obtain ⟨a, us, rfl, ha, hs⟩ := ls_get w1 h1 h2
      have eu := hs.strs_eq
      subst eu
      exact ⟨a, ts, rfl, .inl (SqL.of ha), hn, k _ S1 M1 _ H1 p1 t1 w1 (.int _)⟩
    · cases h1 with
      | tup n ha hs =>
        have eu := hs.strs_eq
        subst eu
        exact ⟨_, ts, rfl, .inr (SqT.of ha), hn, k _ S1 M1 _ H1 p1 t1 w1 (.int _)⟩⟩
theorem lc_run {J : It} {G : Mem → Prop} {g : TG} {t : TT} {ta : TE} {dg : DG} {dt : DT} {da : DE} {sl vs : List Nat} [A : PuG g dg sl] [sub : SubL sl vs] [T : PuT t dt] [B : PuE ta da] {S1 : Addr → Prop} {M1 : Mem} {H1 : Hp} {xs : List D} {σ : L2.St} {δ : Dl} {P : QD} {Q : VK}
    (wk : Walks J G S1 M1 H1 xs) (w1 : Wo S1 M1 H1) (e1 : En S1 H1 σ δ) (g1 : G M1) (hn : xs.length ≤ 16777216) (p1 : dGather G dg dt da vs δ P xs [] M1) (k : ∀ d S' M' v H', P d M' → Step S1 M1 H1 S' M' H' → Wo S' M' H' → Dt S' H' v d → Q v H') :
    tLc (fun _ H R => R J H) g t ta vs σ H1 Q := by
  intro D0 hD
  let Iv : Nat → Hp → Prop := fun i H' => ∃ S' M' acc ws, G M' ∧ dGather G dg dt da vs δ P (xs.drop i) acc M' ∧ Step S1 M1 H1 S' M' H' ∧ Wo S' M' H' ∧ En S' H' σ δ ∧ S' D0 ∧ M' D0 = none ∧ H' D0 = some (.lst ws) ∧ DtA S' H' ws acc ∧ acc.length ≤ i
  refine ⟨fun i m H' => i ≤ xs.length ∧ m = xs.length - i ∧ Iv i H', ⟨_, Nat.zero_le _, rfl, (fun a => S1 a ∨ a = D0), M1, [], [], g1, p1, .apart hD, w1.apart hD, e1.step w1 (.apart hD), .inr rfl, w1.fresh hD, upd_same, .nil, Nat.zero_le _⟩, ?_⟩
  rintro i m H2 ⟨hi, rfl, S2, M2, acc, ws, g2, p2, t2, w2, e2, sD, mD, hL, hA, hlen⟩
  by_cases hlt : i < xs.length
  · refine .inr ⟨wk.go i S2 M2 H2 hlt t2 w2 g2, Iv (i + 1), fun H' q => ⟨_, by omega, hlt, rfl, q⟩, ?_⟩
    intro x H3 y
    obtain ⟨same, d, hd, hx⟩ := wk.yld i S2 M2 H2 x H3 hlt t2 w2 g2 y
    rw [drop_cons hd] at p2
    have t3 : Step S2 M2 H2 S2 M2 H3 := .same same
    have w3 := w2.same same
    have e3 := e2.step w2 t3
    refine A.run S2 M2 _ _ H3 x d _ _ w3 (e3.wipe vs) hx p2 fun δ4 S4 M4 σ4 H4 p4 t4 w4 e4 o4 => ⟨by rw [o4 vs sub.h, wipe_wipe], ?_⟩
    refine T.run S4 M4 σ4 δ4 H4 _ _ w4 e4 p4 fun b S5 M5 H5 p5 t5 w5 => ?_
    have t25 := (t3.trans t4).trans t5
    obtain ⟨hL5, mD5, sD5⟩ := t25.keep _ _ mD hL
    have hA5 := dtA_step w2 t25 _ hA
    cases b with
    | true =>
      rw [if_pos rfl] at p5 ⊢
      refine B.run S5 M5 σ4 δ4 H5 _ _ w5 (e4.step w4 t5) p5 fun y S6 M6 v H6 p6 t6 w6 h6 => ?_
      obtain ⟨hL6, mD6, sD6⟩ := t6.keep _ _ mD5 hL5
      have hA6 := dtA_step w5 t6 _ hA5
      have sd : S6 D0 := sD6.mpr (sD5.mpr sD)
      have ex : Ext S6 H6 (upd H6 D0 (.lst (ws ++ [v]))) := Ext.mut (Ext.refl _) sd
      refine ⟨ws, hL6, by rw [hA.length]; exact Nat.lt_of_le_of_lt hlen (Nat.lt_of_lt_of_le hlt (by rw [sizeLine_eq]; exact hn)), S6, M6, acc ++ [y], ws ++ [v], p6.1, p6.2, ?_, ?_, ?_, sd, mD6, upd_same, (hA6.snoc h6).go ex, by rw [List.length_append, List.length_singleton]; omega⟩
      · have t16 := (t2.trans t25).trans t6
        refine ⟨fun b o n hb => ?_⟩
        obtain ⟨q1, q2, q3⟩ := t16.keep b o n hb
        exact ⟨(upd_ne (ne_of_none hb hD)).trans q1, q2, q3⟩
      · refine ⟨fun a s => ?_, fun a mo q => ?_⟩
        · by_cases c : a = D0
          · rw [c, upd_same]; exact fun z => nomatch z
          · rw [upd_ne c]; exact w6.tr a s
        · obtain ⟨s, q2⟩ := w6.mem a mo q
          have c : a ≠ D0 := by rintro rfl; rw [mD6] at q; cases q
          exact ⟨s, held_ext ex (fun u hu => (upd_ne c).trans hu) q2⟩
      · have e6 : En S6 H6 σ δ := e3.step w3 ((t4.trans t5).trans t6)
        exact ⟨e6.len, fun i d h => by
          obtain ⟨v, h1, h2⟩ := e6.at_ i d h
          exact ⟨v, h1, h2.go ex⟩⟩
    | false =>
      rw [if_neg Bool.false_ne_true] at p5 ⊢
      exact ⟨S5, M5, acc, ws, p5.1, p5.2, t2.trans t25, w5, e2.step w2 t25, sD5.mpr sD, mD5, hL5, hA5, by omega⟩
  · have ei : i = xs.length := by omega
    subst ei
    rw [List.drop_length] at p2
    refine .inl ⟨wk.stop S2 M2 H2 t2 w2 g2, k _ (fun a => S2 a ∧ a ≠ D0) M2 _ H2 p2 ⟨fun b o n hb => ?_⟩ ⟨fun a s => w2.tr a s.1, fun a mo q => ?_⟩ (.lst (fun z => z.2 rfl) hL (dtA_freeze hA))⟩
    · obtain ⟨q1, q2, q3⟩ := t2.keep b o n hb
      have c := ne_of_none hb hD
      exact ⟨q1, q2, ⟨fun z => q3.mp z.1, fun z => ⟨q3.mpr z, c⟩⟩⟩
    · obtain ⟨s, q2⟩ := w2.mem a mo q
      have c : a ≠ D0 := by rintro rfl; rw [mD] at q; cases q
      exact ⟨⟨s, c⟩, held_set (fun b n _ z => n z.1) q2⟩
theorem mdel_none {M : Mem} {p : Addr} : mdel M p p = none := if_pos rfl
theorem mdel_ne {M : Mem} {a p : Addr} (h : a ≠ p) : mdel M p a = M a := if_neg h
/-- [.. for x in d.values()] -/
def dLcV (a : DE) (g : DG) (t : DT) (e : DE) (vs : List Nat) : DE := fun δ M P => ∃ p kvs, M p = some (.dic kvs) ∧ a δ (mdel M p) fun x M1 => x = .ptr p ∧ kvs.length ≤ 16777216 ∧ dGather (fun _ => True) g t e vs δ (fun d M' => P d (mset M' p (.dic kvs))) (kvs.map (·.2)) [] M1
instance pu_lcV {td : TE} {g : TG} {t : TT} {ta : TE} {dd : DE} {dg : DG} {dt : DT} {da : DE} {sl vs : List Nat} [A : PuE td dd] [B : PuG g dg sl] [sub : SubL sl vs] [C : PuT t dt] [E : PuE ta da] : PuE (tLockE (tLc (iVals td) g t ta vs)) (dLcV dd dg dt da vs) := ⟨fun S M σ δ H P Q w e h k => by
  obtain ⟨p, kvs, hm, h⟩ := h
  obtain ⟨sp, ws, ha, hk, hs⟩ := w.mem p _ hm
  refine ⟨p, .dK ws, ha, trivial, fun od => ?_⟩
  have ex : Ext S H (upd H p (.frz od (.dK ws))) := Ext.mut (Ext.refl _) sp
  have w0 : Wo S (mdel M p) (upd H p (.frz od (.dK ws))) := ⟨fun a s => by
    by_cases c : a = p
    · rw [c, upd_same]; exact fun z => nomatch z
    · rw [upd_ne c]; exact w.tr a s, fun a mo q => by
    have c : a ≠ p := by rintro rfl; rw [mdel_none] at q; cases q
    rw [mdel_ne c] at q
    obtain ⟨s, q2⟩ := w.mem a mo q
    exact ⟨s, held_ext ex (fun u hu => (upd_ne c).trans hu) q2⟩⟩
  have e0 : En S (upd H p (.frz od (.dK ws))) σ δ := ⟨e.len, fun i d h => by
    obtain ⟨v, h1, h2⟩ := e.at_ i d h
    exact ⟨v, h1, h2.go ex⟩⟩
  refine A.run S _ σ δ _ _ _ w0 e0 h fun x S1 M1 v H1 p1 t1 w1 h1 => ?_
  obtain ⟨rfl, hn, p1⟩ := p1
  cases h1
  obtain ⟨f1, m1, s1⟩ := t1.keep p _ mdel_none upd_same
  refine ⟨p, od, ws, rfl, f1, ?_⟩
  have hs1 : DtA S1 H1 (ws.map (·.2)) (kvs.map (·.2)) := dtA_step w0 t1 _ (hs.go ex)
  have el : ws.length = kvs.length := len_held hk
  have wk : Walks (Itd p od ws) (fun _ => True) S1 M1 H1 (kvs.map (·.2)) :=
    ⟨fun S' M' H' t' w' _ => ⟨(t'.keep p _ m1 f1).1, by rw [List.length_map]; omega⟩, fun i S' M' H' hi t' w' _ => ⟨(t'.keep p _ m1 f1).1, by rw [List.length_map] at hi; omega⟩, fun i S' M' H' x H2 hi t' w' _ y => by
      obtain ⟨rfl, key, hy⟩ := y
      obtain ⟨d, e1, e2⟩ := (dtA_step w1 t' _ hs1).getV (i := i) (v := x) (by rw [List.getElem?_map, hy]; rfl)
      exact ⟨Same.refl _, d, e1, e2⟩⟩
  refine lc_run (Q := fun v H' => H' p = some (.frz od (.dK ws)) ∧ Q v (upd H' p (.dK ws))) (ta := ta) (t := t) (g := g) (vs := vs) (δ := δ) wk w1 (e0.step w0 t1) trivial (by rw [List.length_map]; exact hn) p1 fun d S' M' v H' q t' w' hv => ?_
  obtain ⟨f2, m2, s2⟩ := t'.keep p _ m1 f1
  have sp' : S' p := s2.mpr (s1.mpr sp)
  have ex' : Ext S' H' (upd H' p (.dK ws)) := Ext.mut (Ext.refl _) sp'
  refine ⟨f2, k d S' _ v _ q ⟨fun b o n hb => ?_⟩ ⟨fun a s => ?_, fun a mo q2 => ?_⟩ (hv.go ex')⟩
  · have c : b ≠ p := by rintro rfl; rw [hm] at n; cases n
    obtain ⟨q1, q2, q3⟩ := (t1.trans t').keep b o ((mdel_ne c).trans n) ((upd_ne c).trans hb)
    exact ⟨(upd_ne c).trans q1, (mset_ne c).trans q2, q3⟩
  · by_cases c : a = p
    · rw [c, upd_same]; exact fun z => nomatch z
    · rw [upd_ne c]; exact w'.tr a s
  · by_cases c : a = p
    · subst c
      rw [mset_same] at q2
      cases q2
      exact ⟨sp', ws, upd_same, hk, (dtA_step w1 t' _ hs1).go ex'⟩
    · rw [mset_ne c] at q2
      obtain ⟨s, q3⟩ := w'.mem a mo q2
      exact ⟨s, held_ext ex' (fun u hu => (upd_ne c).trans hu) q3⟩⟩
end V
namespace V
open PySem PySem.Spec PyProof.Rows L2 U StX
end V
namespace V
open PySem PySem.Spec PyProof.Rows L2 U StX
section
variable {X : Cx} {pins : List (Addr × Obj)} {σ : L2.St} {H : Hp} {s : Shared} {n : Nat} {f : Addr} {fd : FuncData} {ps : List Str} {sp : Sp} {a C : Addr} {y : V} {v : Value} {Q : VK}
/-- what the other thing may be -/
inductive Oth (C : Addr) (H : Hp) : V → Value → Prop
  | non : Oth C H .non (.type "NoneType")
  | str (x : Str) : Oth C H (.str x) (.type "str")
  | tup {b : Addr} {xs : List V} : H b = some (.tup xs) → Oth C H (.ref b) (.type "tuple")
  | ins {b dx : Addr} {fs : List (Str × V)} : H b = some (.ins C dx fs) → Oth C H (.ref b) (.ref C)
/-- x == y, x an instance with an __eq__ of its own -/
def rEqOwn (C : Addr) (sp : Sp) : R2 := fun x y H Q => ∃ a dx fs tb, x = V.ref a ∧ H a = some (.ins C dx fs) ∧ Oth C H y tb ∧ sp [.ref a, y] H (fun v H' => ∃ t, v = V.bl t ∧ Q (.bl t) H') L2.E0
/-- None in xs, each of xs an instance that is not equal to None -/
def rInOwn (C : Addr) (sp : Sp) : R2 := fun x y H Q => ∃ l xs, x = V.non ∧ y = V.ref l ∧ ∃ W : Nat → Hp → Prop, W 0 H ∧ ∀ i H', W i H' → H' l = some (.lst xs) ∧ (xs.length ≤ i → Q (.bl false) H') ∧
  ∀ z, xs[i]? = some z → ∃ a dx fs, z = V.ref a ∧ H' a = some (.ins C dx fs) ∧ sp [.ref a, .non] H' (fun v H2 => ∃ t, v = V.bl t ∧ (V.bl t = V.bl false ∧ W (i + 1) H2)) L2.E0
end
def rEqOwnD (C : Addr) (sp : DC) : DR := fun x y M P => ∃ n1 x1, x = .ins C n1 x1 ∧ (y = .non ∨ (∃ z, y = .str z) ∨ (∃ ys, y = .tup ys) ∨ ∃ n2 x2, y = .ins C n2 x2) ∧ sp [x, y] M fun d M' => ∃ t, d = .bl t ∧ P (.bl t) M'
instance op_eqOwnD {C : Addr} {sp : DC} : OpD (rEqOwn C (lift sp)) (rEqOwnD C sp) := ⟨fun S M H x y dx dy P Q w hx hy h k => by
  obtain ⟨n1, x1, rfl, hyk, h⟩ := h
  have gx := hx
  have gy := hy
  have fin : ∀ {a : Addr}, Dt S H (.ref a) (.ins C n1 x1) → lift sp [.ref a, y] H (fun v H' => ∃ t, v = V.bl t ∧ Q (.bl t) H') L2.E0 := fun {a} ha => ⟨S, M, _, _, w, .cons ha (.cons gy .nil), h, fun d S' M' v H' p t w' hv => by
    obtain ⟨b, rfl, p⟩ := p
    cases hv
    exact ⟨b, rfl, k _ S' M' _ H' p t w' (.bl _)⟩⟩
  cases hx with
  | ins _ ha _ _ =>
    rcases hyk with rfl | ⟨z, rfl⟩ | ⟨ys, rfl⟩ | ⟨n2, x2, rfl⟩
    · cases hy
      exact ⟨_, _, _, _, rfl, ha, .non, fin gx⟩
    · cases hy
      exact ⟨_, _, _, _, rfl, ha, .str z, fin gx⟩
    · cases hy with
      | tup _ hb _ => exact ⟨_, _, _, _, rfl, ha, .tup hb, fin gx⟩
    · cases hy with
      | ins _ hb _ _ => exact ⟨_, _, _, _, rfl, ha, .ins hb, fin gx⟩⟩
/-- each is asked whether it is None, and says no -/
def dAskAll (C : Addr) (sp : DC) (P : QD) : List D → Mem → Prop
  | [], M => P (.bl false) M
  | d :: ds, M => (∃ n x, d = .ins C n x) ∧ sp [d, .non] M fun v M' => v = .bl false ∧ dAskAll C sp P ds M'
def rInOwnD (C : Addr) (sp : DC) : DR := fun x y M P => ∃ ds, x = .non ∧ y = .lst ds ∧ dAskAll C sp P ds M
instance op_inOwnD {C : Addr} {sp : DC} : OpD (rInOwn C (lift sp)) (rInOwnD C sp) := ⟨fun S M H x y dx dy P Q w hx hy h k => by
  obtain ⟨ds, rfl, rfl, h⟩ := h
  cases hx
  cases hy with
  | @lst l xs _ hn ha hs =>
    refine ⟨l, xs, rfl, rfl, fun i H' => ∃ S' M', Step S M H S' M' H' ∧ Wo S' M' H' ∧ dAskAll C sp P (ds.drop i) M', ⟨S, M, .refl, w, h⟩, ?_⟩
    rintro i H' ⟨S', M', t, w', q⟩
    have hl := dt_step w t _ (Dt.lst hn ha hs)
    cases hl with
    | lst hn' ha' hs' =>
      obtain ⟨e1, _, _⟩ := t.keep _ _ (w.mn hn) ha
      rw [ha'] at e1
      cases e1
      have el := hs'.length
      refine ⟨ha', fun c => ?_, fun z hz => ?_⟩
      · rw [List.drop_of_length_le (by omega)] at q
        exact k _ S' M' _ H' q t w' (.bl _)
      · obtain ⟨d, hd, hv⟩ := hs'.getV hz
        rw [drop_cons hd] at q
        obtain ⟨⟨n1, x1, rfl⟩, q⟩ := q
        have gv := hv
        cases hv with
        | ins _ hb _ _ =>
          refine ⟨_, _, _, rfl, hb, S', M', _, _, w', .cons gv (.cons .non .nil), q, fun d' S2 M2 v H2 p t2 w2 hv2 => ?_⟩
          obtain ⟨rfl, p⟩ := p
          cases hv2
          exact ⟨false, rfl, rfl, S2, M2, t.trans t2, w2, p⟩⟩
def tKGet (l : List (Str × Int)) (te : TE) : TE := fun σ H Q => te σ H fun y H1 => ∃ p ∈ l, y = .str p.1 ∧ Q (.int p.2) H1
def dKGet (l : List (Str × Int)) (e : DE) : DE := fun δ M P => e δ M fun y M1 => ∃ p ∈ l, y = .str p.1 ∧ P (.int p.2) M1
instance pu_kget {l : List (Str × Int)} {te : TE} {de : DE} [A : PuE te de] : PuE (tKGet l te) (dKGet l de) := ⟨fun S M σ δ H P Q w e h k =>
  A.run S M σ δ H _ _ w e h fun x S1 M1 v1 H1 p1 t1 w1 h1 => by
    obtain ⟨p, hp, rfl, p1⟩ := p1
    cases h1
    exact ⟨p, hp, rfl, k _ S1 M1 _ H1 p1 t1 w1 (.int _)⟩⟩
end V
namespace V
open PySem PySem.Spec PyProof.Rows L2 U StX
def rRepM : R2 := rRep
def rRepM1 : DR := fun x y M P => ∃ xs k, isLs M x xs ∧ y = .int k ∧ -(2 ^ 63) ≤ k ∧ k < 2 ^ 63 ∧ xs.length * k.toNat ≤ sizeLine ∧ ∀ a, M a = none → P (.ptr a) (mset M a (.lst (List.replicate k.toNat xs).flatten))
instance op_repM1 : OpD rRepM rRepM1 := ⟨fun S M H x y dx dy P Q w hx hy h k => by
  obtain ⟨xs, i, hl, rfl, h1, h2, h3, h⟩ := h
  obtain ⟨a, vs, rfl, ha, hs⟩ := ls_get w hx hl
  cases hy
  refine ⟨a, i, vs, rfl, rfl, ha, h1, h2, by rw [hs.length]; exact h3, fun p hp => ?_⟩
  have hs2 := (dtA_rep hs i.toNat).sm (Same.new (o := .lst (List.replicate i.toNat vs).flatten) hp)
  have hs3 : DtA (fun a => S a ∨ a = p) (upd H p (.lst (List.replicate i.toNat vs).flatten)) (List.replicate i.toNat vs).flatten (List.replicate i.toNat xs).flatten := by
    have := DtA.set (S := S) (S' := fun a => S a ∨ a = p) (fun b n k z => z.elim n fun q => k (by rw [q]; exact hp)) _ (dtA_rep hs i.toNat)
    exact this.sm (Same.new hp)
  exact k (.ptr p) _ _ (.ref p) _ (h p (w.fresh hp)) (.mutable w hp) (w.mutable hp ⟨_, upd_same, hs3⟩) (.ptr p)⟩
end V
namespace V
open PySem PySem.Spec PyProof.Rows L2 U StX
section
variable {X : Cx} {pins : List (Addr × Obj)} {σ : L2.St} {H : Hp} {s : Shared}
def rInDT : R2 := fun y x H Q => ∃ a kvs, x = V.ref a ∧ H a = some (.dT kvs) ∧ ((∃ z, y = V.str z ∧ Q (.bl false) H) ∨ ∃ b k, y = V.ref b ∧ H b = some (.tup (k.map kV)) ∧ Q (.bl (valV kvs k).isSome) H)
end
def valT (kvs : List (List Key × D)) (k : List Key) : Option D := (kvs.find? fun kv => decide (kv.1 = k)).map (·.2)
theorem valT_pos {p : List Key × D} {r : List (List Key × D)} {k : List Key} (e : p.1 = k) : valT (p :: r) k = some p.2 := by simp [valT, List.find?_cons, e]
theorem valT_neg {p : List Key × D} {r : List (List Key × D)} {k : List Key} (e : ¬ p.1 = k) : valT (p :: r) k = valT r k := by simp [valT, List.find?_cons, e]
section
variable {S : Addr → Prop} {M : Mem} {H : Hp}
theorem dtA_kk : ∀ {ks : List Key} {vs : List V}, DtA S H vs (ks.map kD) → vs = ks.map kV
  | [], _, .nil => rfl
  | _ :: _, _, .cons h t => by rw [dt_kD h, dtA_kk t]; rfl
theorem valT_held : ∀ {ws : List (List Key × V)} {kvs : List (List Key × D)}, ws.map (·.1) = kvs.map (·.1) → DtA S H (ws.map (·.2)) (kvs.map (·.2)) → ∀ k, (valT kvs k = none ∧ valV ws k = none) ∨ ∃ d v, valT kvs k = some d ∧ valV ws k = some v ∧ Dt S H v d
  | [], [], _, _, k => .inl ⟨rfl, rfl⟩
  | [], _ :: _, h, _, _ => by simp at h
  | _ :: _, [], h, _, _ => by simp at h
  | (a, v) :: ws, (b, d) :: kvs, hk, hs, k => by
    simp only [List.map_cons, List.cons.injEq] at hk
    obtain ⟨rfl, hk⟩ := hk
    cases hs with
    | cons h1 h2 =>
      by_cases c : a = k
      · exact .inr ⟨d, v, valT_pos c, valV_pos c, h1⟩
      · rw [valT_neg (p := (a, d)) c, valV_neg (p := (a, v)) c]
        exact valT_held hk h2 k
theorem lenT_held {ws : List (List Key × V)} {kvs : List (List Key × D)} (hk : ws.map (·.1) = kvs.map (·.1)) : ws.length = kvs.length := by
  have := congrArg List.length hk
  rwa [List.length_map, List.length_map] at this
end
def dDNewT : DE := fun δ M P => ∀ a, M a = none → P (.ptr a) (mset M a (.dct []))
instance pu_dnewT : PuE tDNewT dDNewT := ⟨fun S M σ δ H P Q w e h k p hp =>
  k (.ptr p) _ _ (.ref p) _ (h p (w.fresh hp)) (.mutable w hp) (w.mutable hp ⟨[], upd_same, rfl, .nil⟩) (.ptr p)⟩
def rInDT1 : DR := fun y x M P => ∃ p kvs, x = .ptr p ∧ M p = some (.dct kvs) ∧ ((∃ z, y = .str z ∧ P (.bl false) M) ∨ ∃ ks : List Key, y = .tup (ks.map kD) ∧ P (.bl (valT kvs ks).isSome) M)
instance op_inDT1 : OpD rInDT rInDT1 := ⟨fun S M H y x dy dx P Q w hy hx h k => by
  obtain ⟨p, kvs, rfl, hm, h⟩ := h
  cases hx
  obtain ⟨_, ws, ha, hk, hs⟩ := w.mem p _ hm
  rcases h with ⟨z, rfl, q⟩ | ⟨ks, rfl, q⟩
  · cases hy
    exact ⟨p, ws, rfl, ha, .inl ⟨z, rfl, k _ S M _ H q .refl w (.bl _)⟩⟩
  · cases hy with
    | tup n hb hv =>
      rw [dtA_kk hv] at hb
      refine ⟨p, ws, rfl, ha, .inr ⟨_, ks, rfl, hb, ?_⟩⟩
      rcases valT_held hk hs ks with ⟨e1, e2⟩ | ⟨d, v, e1, e2, e3⟩
      · rw [e2]
        rw [e1] at q
        exact k _ S M _ H q .refl w (.bl _)
      · rw [e2]
        rw [e1] at q
        exact k _ S M _ H q .refl w (.bl _)⟩
/-- d[k], the key a tuple -/
def tDGetT (td ty : TE) : TE := tDGet td ty
def dDIxT (a b : DE) : DE := fun δ M P => a δ M fun x M1 => b δ M1 fun y M2 => ∃ p kvs, ∃ ks : List Key, ∃ d, x = .ptr p ∧ M2 p = some (.dct kvs) ∧ y = .tup (ks.map kD) ∧ valT kvs ks = some d ∧ P d M2
instance pu_dixT {ta tb : TE} {da db : DE} [A : PuE ta da] [B : PuE tb db] : PuE (tDGetT ta tb) (dDIxT da db) := ⟨fun S M σ δ H P Q w e h k =>
  A.run S M σ δ H _ _ w e h fun x S1 M1 v1 H1 p1 t1 w1 h1 => B.run S1 M1 σ δ H1 _ _ w1 (e.step w t1) p1 fun y S2 M2 v2 H2 p2 t2 w2 h2 => by
    obtain ⟨p, kvs, ks, d, rfl, hm, rfl, hv, p2⟩ := p2
    cases h1
    obtain ⟨_, ws, ha, hk, hs⟩ := w2.mem p _ hm
    cases h2 with
    | tup n hb hvs =>
      rw [dtA_kk hvs] at hb
      rcases valT_held hk hs ks with ⟨e1, e2⟩ | ⟨d', v, e1, e2, e3⟩
      · rw [hv] at e1; cases e1
      · rw [hv] at e1; cases e1
        exact ⟨p, v, rfl, e2 ▸ DGet.t ha hb, k _ _ _ _ _ p2 (t1.trans t2) w2 e3⟩⟩
/-- d[k] = v, the key a tuple that is new -/
def sDPutT (td ty tv : TE) : TS := sDPut td ty tv
def sDPutTD (a b c : DE) : DS := fun nx rt bk ct δ M => c δ M fun z M1 => a δ M1 fun x M2 => b δ M2 fun y M3 => ∃ p kvs, ∃ ks : List Key, x = .ptr p ∧ M3 p = some (.dct kvs) ∧ y = .tup (ks.map kD) ∧ valT kvs ks = none ∧ kvs.length < sizeLine ∧ nx δ (mset M3 p (.dct (kvs ++ [(ks, z)])))
instance pu_dputT {ta tb tc : TE} {da db dc : DE} [A : PuE ta da] [B : PuE tb db] [C : PuE tc dc] : PuS (sDPutT ta tb tc) (sDPutTD da db dc) := ⟨fun S M σ δ H nx rt bk ct E w e h l =>
  C.run S M σ δ H _ _ w e h fun z S1 M1 v1 H1 p1 t1 w1 h1 => A.run S1 M1 σ δ H1 _ _ w1 (e.step w t1) p1 fun x S2 M2 v2 H2 p2 t2 w2 h2 =>
    B.run S2 M2 σ δ H2 _ _ w2 (e.step w (t1.trans t2)) p2 fun y S3 M3 v3 H3 p3 t3 w3 h3 => by
      obtain ⟨p, kvs, ks, rfl, hm, rfl, hn, hl, q⟩ := p3
      cases h2
      obtain ⟨sp, ws, ha, hk, hs⟩ := w3.mem p _ hm
      have t123 := (t1.trans t2).trans t3
      have hv := dt_step w1 (t2.trans t3) _ h1
      cases h3 with
      | tup n hb hvs =>
        rw [dtA_kk hvs] at hb
        rcases valT_held hk hs ks with ⟨e1, e2⟩ | ⟨d', v, e1, e2, e3⟩
        · have ep : putK ws ks v1 = ws ++ [(ks, v1)] := by
            unfold putK
            rw [valV_any, e2]
            rfl
          have ex : Ext S3 H3 (upd H3 p (.dT (putK ws ks v1))) := Ext.mut (Ext.refl _) sp
          have t4 : Step S M H S3 (mset M3 p (.dct (kvs ++ [(ks, z)]))) (upd H3 p (.dT (putK ws ks v1))) := t123.trans (.change hm)
          refine ⟨p, _, rfl, DPut.t ha hb (by rw [lenT_held hk]; exact hl), l.nx _ _ _ _ _ q t4 (w3.change hm ⟨_, upd_same, ?_, ?_⟩) (e.step w t4)⟩
          · rw [ep, List.map_append, List.map_append, hk]
            rfl
          · rw [ep, List.map_append, List.map_append]
            exact ((hs.go (ep ▸ ex)).snoc (hv.go (ep ▸ ex)))
        · rw [hn] at e1; cases e1⟩
end V
namespace V
open PySem PySem.Spec PyProof.Rows L2 U StX
end V
namespace V
open PySem PySem.Spec PyProof.Rows L2 U StX
section
variable {X : Cx}
def rMinS (K : PySem.W.Frag) : List V → Hp → VK → Prop := fun vs H Q => ∃ (a : Addr) (zs : List Str), vs = [V.ref a] ∧ SqL K H a (zs.map V.str) ∧ 0 < zs.length ∧ ∀ m, m ∈ zs → (∀ y, y ∈ zs → ¬ cd y < cd m) → Q (.str m) H
end
def rMinS1 : DC := fun ds M P => ∃ (x : D) (zs : List Str), ds = [x] ∧ isLs M x (zs.map D.str) ∧ 0 < zs.length ∧ ∀ m, m ∈ zs → (∀ y, y ∈ zs → ¬ cd y < cd m) → P (.str m) M
theorem dtA_strs {S : Addr → Prop} {H : Hp} : ∀ {zs : List Str} {vs : List V}, DtA S H vs (zs.map D.str) → vs = zs.map V.str
  | [], _, .nil => rfl
  | _ :: _, _, .cons h t => by cases h; rw [dtA_strs t]; rfl
instance cb_minS {K : PySem.W.Frag} : CbD (rMinS K) rMinS1 := ⟨fun S M H vs ds P Q w hv h k => by
  obtain ⟨x, zs, rfl, hl, h0, q⟩ := h
  match vs, hv with
  | [v], .cons h1 .nil =>
    obtain ⟨a, us, rfl, ha, hs⟩ := ls_get w h1 hl
    rw [dtA_strs hs] at ha
    exact ⟨a, zs, rfl, SqL.of ha, h0, fun m h2 h3 => k _ S M _ H (q m h2 h3) .refl w (.str m)⟩⟩
end V
namespace V
open PySem PySem.Spec PyProof.Rows L2 U StX
def rRepT1 : DR := fun x y M P => ∃ xs k, x = .tup xs ∧ y = .int k ∧ xs ≠ [] ∧ 2 ≤ k ∧ k ≤ 1000 ∧ xs.length ≤ 1000 ∧ P (.tup (List.replicate k.toNat xs).flatten) M
instance op_repT1 {K : PySem.W.Frag} : OpD (rRepT K) rRepT1 := ⟨fun S M H x y dx dy P Q w hx hy h k => by
  obtain ⟨xs, i, rfl, rfl, h0, h1, h2, h3, h⟩ := h
  cases hy
  cases hx with
  | tup n ha hs =>
    rename_i a vs
    have hl := hs.length
    refine ⟨_, i, vs, rfl, rfl, SqT.of ha, fun z => ?_, h1, h2, by omega, fun p hp => ?_⟩
    · rw [z] at hl
      exact h0 (List.length_eq_zero_iff.mp hl.symm)
    · exact k (.tup _) _ _ (.ref p) _ h (.new hp) (w.new hp) (.tup (w.ns hp) upd_same ((dtA_rep hs i.toNat).sm (Same.new hp)))⟩
end V
namespace V
open PySem PySem.Spec PyProof.Rows L2 U StX
end V
namespace V
open PySem PySem.Spec PyProof.Rows L2 U StX
/-- J walks these data whatever the heap is -/
structure WalksA (J : It) (xs : List D) : Prop where
  stop : ∀ H', J.stop xs.length H'
  go : ∀ i H', i < xs.length → J.go i H'
  yld : ∀ i H' x H2, i < xs.length → J.yld i H' x H2 → Same H' H2 ∧ ∃ d, xs[i]? = some d ∧ ∀ S', Dt S' H2 x d
theorem walksA_of {J : It} {xs : List D} (h : ∀ S M H, Wo S M H → Walks J (fun _ => True) S M H xs) (hd : ∀ d ∈ xs, ∃ i, d = .int i) : WalksA J xs where
  stop H' := (h N0 (fun _ => none) H' (wo_none H')).stop _ _ _ .refl (wo_none H') trivial
  go i H' hi := (h N0 (fun _ => none) H' (wo_none H')).go i _ _ _ hi .refl (wo_none H') trivial
  yld i H' x H2 hi y := by
    obtain ⟨s, d, e, k⟩ := (h N0 (fun _ => none) H' (wo_none H')).yld i _ _ _ x H2 hi .refl (wo_none H') trivial y
    refine ⟨s, d, e, fun S' => ?_⟩
    obtain ⟨j, rfl⟩ := hd d (List.mem_of_getElem? e)
    cases k
    exact .int j
abbrev DIA := Dl → Mem → (List D → Mem → Prop) → Prop
class PuIA (t : TI) (dt : outParam DIA) : Prop where
  run : ∀ S M σ δ H (P : List D → Mem → Prop) (R : It → Hp → Prop), Wo S M H → En S H σ δ → dt δ M P → (∀ xs S' M' H' J, P xs M' → Step S M H S' M' H' → Wo S' M' H' → WalksA J xs → R J H') → t σ H R
def dA1 (a : DA) : DIA := fun δ M P => a δ M fun xs M1 => ∃ j : Int, xs = [.int j] ∧ -(2 ^ 62) ≤ j ∧ j < 2 ^ 62 ∧ P (rgD 0 j) M1
instance pu_ia1 {tt : TA} {dd : DA} [A : PuA tt dd] : PuIA (iRng1 tt) (dA1 dd) := ⟨fun S M σ δ H P R w e h k =>
  A.run S M σ δ H _ _ w e h fun d S1 M1 v H1 p1 t1 w1 h1 => by
    obtain ⟨j, rfl, b1, b2, p1⟩ := p1
    match v, h1 with
    | [_], .cons (.int _) .nil => exact ⟨j, rfl, b1, b2, k _ S1 M1 H1 _ p1 t1 w1 (walksA_of (fun S M H w => walks_rng (by rw [Int.sub_zero])) fun d hd => by
      obtain ⟨i, hi⟩ := List.getElem?_of_mem hd
      have hl := (List.getElem?_eq_some_iff.mp hi).1
      rw [rgD_get hl] at hi
      exact ⟨_, (Option.some.inj hi).symm⟩)⟩⟩
def dIn (g1 : DG) (t1 : DT) (a : DE) (vs1 : List Nat) (δ : Dl) (Kn : List D → Mem → Prop) : List D → List D → Mem → Prop
  | [], acc, M => Kn acc M
  | y :: ys, acc, M => g1 y (wipeD δ vs1) M fun δ3 M1 => t1 δ3 M1 fun b M2 => if b = true then a δ3 M2 fun z M3 => acc.length < sizeLine ∧ dIn g1 t1 a vs1 δ Kn ys (acc ++ [z]) M3 else dIn g1 t1 a vs1 δ Kn ys acc M2
def dGather2 (G : Mem → Prop) (g : DG) (t : DT) (i1 : DIA) (g1 : DG) (t1 : DT) (a : DE) (vs vs1 : List Nat) (δ : Dl) (P : QD) : List D → List D → Mem → Prop
  | [], acc, M => P (.lst acc) M
  | x :: xs, acc, M => g x (wipeD δ vs) M fun δ1 M1 => t δ1 M1 fun b M2 => if b = true then i1 δ1 M2 fun ys M3 => dIn g1 t1 a vs1 δ1 (fun acc M4 => G M4 ∧ dGather2 G g t i1 g1 t1 a vs vs1 δ P xs acc M4) ys acc M3 else G M2 ∧ dGather2 G g t i1 g1 t1 a vs vs1 δ P xs acc M2
def dLc2 (i : DI) (g : DG) (t : DT) (i1 : DIA) (g1 : DG) (t1 : DT) (a : DE) (vs vs1 : List Nat) : DE := fun δ M P => i δ M fun G xs M1 => G M1 ∧ dGather2 G g t i1 g1 t1 a vs vs1 δ P xs [] M1
theorem en_push {S : Addr → Prop} {H : Hp} {σ : L2.St} {δ : Dl} {D0 : Addr} {o : HO} (e : En S H σ δ) (sd : S D0) : En S (upd H D0 o) σ δ := ⟨e.len, fun i d h => by
  obtain ⟨v, h1, h2⟩ := e.at_ i d h
  exact ⟨v, h1, h2.go (Ext.mut (Ext.refl _) sd)⟩⟩
theorem wo_push {S : Addr → Prop} {M : Mem} {H : Hp} {D0 : Addr} {o : HO} (w : Wo S M H) (sd : S D0) (mD : M D0 = none) : Wo S M (upd H D0 o) := by
  refine ⟨fun a s => ?_, fun a mo q => ?_⟩
  · by_cases c : a = D0
    · rw [c, upd_same]; exact fun z => nomatch z
    · rw [upd_ne c]; exact w.tr a s
  · obtain ⟨s, q2⟩ := w.mem a mo q
    have c : a ≠ D0 := by rintro rfl; rw [mD] at q; cases q
    exact ⟨s, held_ext (Ext.mut (Ext.refl _) sd) (fun u hu => (upd_ne c).trans hu) q2⟩
theorem step_push {S1 S' : Addr → Prop} {M1 M' : Mem} {H1 H' : Hp} {D0 : Addr} {o : HO} (t : Step S1 M1 H1 S' M' H') (hD : H1 D0 = none) : Step S1 M1 H1 S' M' (upd H' D0 o) := ⟨fun b u n hb => by
  obtain ⟨q1, q2, q3⟩ := t.keep b u n hb
  exact ⟨(upd_ne (ne_of_none hb hD)).trans q1, q2, q3⟩⟩
set_option maxHeartbeats 16000000 in
instance pu_lc2 {ti ti1 : TI} {g g1 : TG} {t t1 : TT} {ta : TE} {di : DI} {di1 : DIA} {dg dg1 : DG} {dt dt1 : DT} {da : DE} {sl sl1 vs vs1 : List Nat} [I : PuI ti di] [A : PuG g dg sl] [sub : SubL sl vs] [T : PuT t dt] [I1 : PuIA ti1 di1] [A1 : PuG g1 dg1 sl1] [sub1 : SubL sl1 vs1] [T1 : PuT t1 dt1] [B : PuE ta da] :
    PuE (tLc2 ti g t ti1 g1 t1 ta vs vs1) (dLc2 di dg dt di1 dg1 dt1 da vs vs1) := ⟨fun S M σ δ H P Q w e h k =>
  I.run S M σ δ H _ _ w e h fun G xs S1 M1 H1 J p1 t1 w1 wk => by
    intro D0 hD
    obtain ⟨g1', p1⟩ := p1
    let Iv : Nat → Hp → Prop := fun i H' => ∃ S' M' acc ws, G M' ∧ dGather2 G dg dt di1 dg1 dt1 da vs vs1 δ P (xs.drop i) acc M' ∧ Step S1 M1 H1 S' M' H' ∧ Wo S' M' H' ∧ En S' H' σ δ ∧ S' D0 ∧ M' D0 = none ∧ H' D0 = some (.lst ws) ∧ DtA S' H' ws acc
    refine ⟨fun i m H' => i ≤ xs.length ∧ m = xs.length - i ∧ Iv i H', ⟨_, Nat.zero_le _, rfl, (fun a => S1 a ∨ a = D0), M1, [], [], g1', p1, .apart hD, w1.apart hD, (e.step w t1).step w1 (.apart hD), .inr rfl, w1.fresh hD, upd_same, .nil⟩, ?_⟩
    rintro i m H2 ⟨hi, rfl, S2, M2, acc, ws, g2, p2, t2, w2, e2, sD, mD, hL, hA⟩
    by_cases hlt : i < xs.length
    · refine .inr ⟨wk.go i S2 M2 H2 hlt t2 w2 g2, Iv (i + 1), fun H' q => ⟨_, by omega, hlt, rfl, q⟩, ?_⟩
      intro x H3 y
      obtain ⟨same, d, hd, hx⟩ := wk.yld i S2 M2 H2 x H3 hlt t2 w2 g2 y
      rw [drop_cons hd] at p2
      have t3 : Step S2 M2 H2 S2 M2 H3 := .same same
      have w3 := w2.same same
      have e3 := e2.step w2 t3
      refine A.run S2 M2 _ _ H3 x d _ _ w3 (e3.wipe vs) hx p2 fun δ4 S4 M4 σ4 H4 p4 t4 w4 e4 o4 => ⟨by rw [o4 vs sub.h, wipe_wipe], ?_⟩
      refine T.run S4 M4 σ4 δ4 H4 _ _ w4 e4 p4 fun b S5 M5 H5 p5 t5 w5 => ?_
      have t25 := (t3.trans t4).trans t5
      obtain ⟨hL5, mD5, sD5⟩ := t25.keep _ _ mD hL
      have hA5 := dtA_step w2 t25 _ hA
      cases b with
      | false =>
        rw [if_neg Bool.false_ne_true] at p5 ⊢
        exact ⟨S5, M5, acc, ws, p5.1, p5.2, t2.trans t25, w5, e2.step w2 t25, sD5.mpr sD, mD5, hL5, hA5⟩
      | true =>
        rw [if_pos rfl] at p5 ⊢
        have e45 := e4.step w4 t5
        have e25 := e2.step w2 t25
        refine I1.run S5 M5 σ4 δ4 H5 _ _ w5 e45 p5 fun ys S6 M6 H6 J1 p6 t6 w6 wk1 => ?_
        obtain ⟨hL6, mD6, sD6⟩ := t6.keep _ _ mD5 hL5
        let Iv1 : Nat → Hp → Prop := fun j H' => ∃ S' M' acc ws, dIn dg1 dt1 da vs1 δ4 (fun acc M4 => G M4 ∧ dGather2 G dg dt di1 dg1 dt1 da vs vs1 δ P (xs.drop (i + 1)) acc M4) (ys.drop j) acc M' ∧ Step S1 M1 H1 S' M' H' ∧ Wo S' M' H' ∧ En S' H' σ δ ∧ En S' H' σ4 δ4 ∧ S' D0 ∧ M' D0 = none ∧ H' D0 = some (.lst ws) ∧ DtA S' H' ws acc
        refine ⟨fun j m H' => j ≤ ys.length ∧ m = ys.length - j ∧ Iv1 j H', ⟨_, Nat.zero_le _, rfl, S6, M6, acc, ws, p6, t2.trans (t25.trans t6), w6, e25.step w5 t6, e45.step w5 t6, sD6.mpr (sD5.mpr sD), mD6, hL6, dtA_step w5 t6 _ hA5⟩, ?_⟩
        rintro j m H7 ⟨hj, rfl, S7, M7, acc7, ws7, p7, t7, w7, e7, f7, sD7, mD7, hL7, hA7⟩
        by_cases hjt : j < ys.length
        · refine .inr ⟨wk1.go j H7 hjt, Iv1 (j + 1), fun H' q => ⟨_, by omega, hjt, rfl, q⟩, ?_⟩
          intro x1 H8 y1
          obtain ⟨same1, d1, hd1, hx1⟩ := wk1.yld j H7 x1 H8 hjt y1
          rw [drop_cons hd1] at p7
          have t8 : Step S7 M7 H7 S7 M7 H8 := .same same1
          have w8 := w7.same same1
          have e8 := e7.step w7 t8
          have f8 := f7.step w7 t8
          refine A1.run S7 M7 _ _ H8 x1 d1 _ _ w8 (f8.wipe vs1) (hx1 S7) p7 fun δ9 S9 M9 σ9 H9 p9 t9 w9 e9 o9 => ⟨by rw [o9 vs1 sub1.h, wipe_wipe], ?_⟩
          refine T1.run S9 M9 σ9 δ9 H9 _ _ w9 e9 p9 fun b Sa Ma Ha pa ta' wa => ?_
          have t7a := (t8.trans t9).trans ta'
          obtain ⟨hLa, mDa, sDa⟩ := t7a.keep _ _ mD7 hL7
          have hAa := dtA_step w7 t7a _ hA7
          cases b with
          | false =>
            rw [if_neg Bool.false_ne_true] at pa ⊢
            exact ⟨Sa, Ma, acc7, ws7, pa, t7.trans t7a, wa, e7.step w7 t7a, f7.step w7 t7a, sDa.mpr sD7, mDa, hLa, hAa⟩
          | true =>
            rw [if_pos rfl] at pa ⊢
            refine B.run Sa Ma σ9 δ9 Ha _ _ wa (e9.step w9 ta') pa fun yv Sb Mb v Hb pb tb wb hb => ?_
            have t7b := t7a.trans tb
            obtain ⟨hLb, mDb, sDb⟩ := tb.keep _ _ mDa hLa
            have hAb := dtA_step wa tb _ hAa
            have sd : Sb D0 := sDb.mpr (sDa.mpr sD7)
            have ex : Ext Sb Hb (upd Hb D0 (.lst (ws7 ++ [v]))) := Ext.mut (Ext.refl _) sd
            refine ⟨ws7, hLb, by rw [hA7.length]; exact pb.1, Sb, Mb, acc7 ++ [yv], ws7 ++ [v], pb.2, step_push (t7.trans t7b) hD, wo_push wb sd mDb, en_push (e7.step w7 t7b) sd, en_push (f7.step w7 t7b) sd, sd, mDb, upd_same, (hAb.snoc hb).go ex⟩
        · have ej : j = ys.length := by omega
          subst ej
          rw [List.drop_length] at p7
          exact .inl ⟨wk1.stop H7, S7, M7, acc7, ws7, p7.1, p7.2, t7, w7, e7, sD7, mD7, hL7, hA7⟩
    · have ei : i = xs.length := by omega
      subst ei
      rw [List.drop_length] at p2
      refine .inl ⟨wk.stop S2 M2 H2 t2 w2 g2, k _ (fun a => S2 a ∧ a ≠ D0) M2 _ H2 p2 (t1.trans ⟨fun b o n hb => ?_⟩) ⟨fun a s => w2.tr a s.1, fun a mo q => ?_⟩ (.lst (fun z => z.2 rfl) hL (dtA_freeze hA))⟩
      · obtain ⟨q1, q2, q3⟩ := t2.keep b o n hb
        have c := ne_of_none hb hD
        exact ⟨q1, q2, ⟨fun z => q3.mp z.1, fun z => ⟨q3.mpr z, c⟩⟩⟩
      · obtain ⟨s, q2⟩ := w2.mem a mo q
        have c : a ≠ D0 := by rintro rfl; rw [mD] at q; cases q
        exact ⟨⟨s, c⟩, held_set (fun b n _ z => n z.1) q2⟩⟩
end V
namespace V
open PySem PySem.Spec PyProof.Rows L2 U StX
def rSortT (K : PySem.W.Frag) : List V → Hp → VK → Prop := fun vs H Q => ∃ (a : Addr) (ns : List Int), vs = [V.ref a] ∧ SqT K H a (ns.map V.int) ∧ ns.length < 64 ∧ ∀ (ns' : List Int) (p : Addr), ns'.Perm ns → ns'.Pairwise (· ≤ ·) → H p = none → Q (.ref p) (upd H p (.lst (ns'.map V.int)))
def rSortT1 : DC := fun ds M P => ∃ (ns : List Int), ds = [.tup (ns.map D.int)] ∧ ns.length < 64 ∧ ∀ ns' : List Int, ns'.Perm ns → ns'.Pairwise (· ≤ ·) → P (.lst (ns'.map D.int)) M
theorem dtA_intsV {S : Addr → Prop} {H : Hp} : ∀ {ns : List Int} {vs : List V}, DtA S H vs (ns.map D.int) → vs = ns.map V.int
  | [], _, .nil => rfl
  | _ :: _, _, .cons h t => by cases h; rw [dtA_intsV t]; rfl
theorem dtA_intsD {S : Addr → Prop} {H : Hp} : ∀ ns : List Int, DtA S H (ns.map V.int) (ns.map D.int)
  | [] => .nil
  | i :: ns => .cons (.int i) (dtA_intsD ns)
instance cb_sortT {K : PySem.W.Frag} : CbD (rSortT K) rSortT1 := ⟨fun S M H vs ds P Q w hv h k => by
  obtain ⟨ns, rfl, h64, q⟩ := h
  match vs, hv with
  | [_], .cons (.tup n ha hs) .nil =>
    rw [dtA_intsV hs] at ha
    exact ⟨_, ns, rfl, SqT.of ha, h64, fun ns' p h1 h2 hp => k _ S M _ _ (q ns' h1 h2) (.new hp) (w.new hp) (.lst (w.ns hp) upd_same (dtA_intsD ns'))⟩⟩
end V
namespace V
open PySem PySem.Spec PyProof.Rows L2 U StX
end V
namespace V
open PySem PySem.Spec PyProof.Rows L2 U StX
end V
namespace V
open PySem PySem.Spec PyProof.Rows L2 U StX
def tSortSet (K : PySem.W.Frag) (ta : TE) : TE := fun σ H Q => ta σ H fun x H1 => ∃ l ts, x = V.ref l ∧ (SqL K H1 l (ts.map V.str) ∨ SqT K H1 l (ts.map V.str)) ∧ ts.length ≤ 4000 ∧ (metS ts).length < 64 ∧
  ∀ (ys : List Str) (p : Addr), ys.Perm (metS ts) → sortedS ys = true → H1 p = none → Q (.ref p) (upd H1 p (.lst (ys.map V.str)))
def dSortSet (a : DE) : DE := fun δ M P => a δ M fun x M1 => ∃ ts : List Str, (isLs M1 x (ts.map D.str) ∨ x = .tup (ts.map D.str)) ∧ ts.length ≤ 4000 ∧ (metS ts).length < 64 ∧ ∀ ys : List Str, ys.Perm (metS ts) → sortedS ys = true → P (.lst (ys.map D.str)) M1
theorem dtA_strsD {S : Addr → Prop} {H : Hp} : ∀ ys : List Str, DtA S H (ys.map V.str) (ys.map D.str)
  | [] => .nil
  | z :: ys => .cons (.str z) (dtA_strsD ys)
instance pu_sortSet {K : PySem.W.Frag} {ta : TE} {da : DE} [A : PuE ta da] : PuE (tSortSet K ta) (dSortSet da) := ⟨fun S M σ δ H P Q w e h k =>
  A.run S M σ δ H _ _ w e h fun d S1 M1 v H1 p1 t1 w1 h1 => by
    obtain ⟨ts, h2, hn0, hn, p1⟩ := p1
    have go : ∀ (ys : List Str) (p : Addr), ys.Perm (metS ts) → sortedS ys = true → H1 p = none → Q (.ref p) (upd H1 p (.lst (ys.map V.str))) := fun ys p q1 q2 hp =>
      k _ S1 M1 _ _ (p1 ys q1 q2) (t1.trans (.new hp)) (w1.new hp) (.lst (w1.ns hp) upd_same (dtA_strsD ys))
    rcases h2 with h2 | rfl
    · obtain ⟨a, us, rfl, ha, hs⟩ := ls_get w1 h1 h2
      have eu := hs.strs_eq
      subst eu
      exact ⟨a, ts, rfl, .inl (SqL.of ha), hn0, hn, go⟩
    · cases h1 with
      | tup n ha hs =>
        have eu := hs.strs_eq
        subst eu
        exact ⟨_, ts, rfl, .inr (SqT.of ha), hn0, hn, go⟩⟩
end V
namespace V
open PySem PySem.Spec PyProof.Rows L2 U StX
/-- a and b stand for like things of class C, of which G holds -/
def Like (C : Addr) (G : D → D → Prop) (a b : Addr) (H : Hp) : Prop := ∃ n1 x1 n2 x2, Dt N0 H (.ref a) (.ins C n1 x1) ∧ Dt N0 H (.ref b) (.ins C n2 x2) ∧ G (.ins C n1 x1) (.ins C n2 x2)
section
variable {X : Cx} {n : Nat} {f C : Addr} {fd : FuncData} {ps : List Str} {sp : DC} {G : D → D → Prop}
def EqRow (K : PySem.W.Frag) (C : Addr) (G : D → D → Prop) : L2.Eqv := fun x y H => L2.DList (L2.DIns C (Like C G)) x y H ∨ L2.DTup K (L2.DIns C (Like C G)) x y H
end
def rEqRowD (C : Addr) (G : D → D → Prop) : DR := fun x y M P => ∃ xs ys : List D, ((x = .lst xs ∧ y = .lst ys) ∨ (x = .tup xs ∧ y = .tup ys)) ∧ xs.length = ys.length ∧ (∀ (i : Nat) d e, xs[i]? = some d → ys[i]? = some e → (∃ n1 x1 n2 x2, d = .ins C n1 x1 ∧ e = .ins C n2 x2) ∧ G d e) ∧ P (.bl true) M
theorem dtA_at {S : Addr → Prop} {H : Hp} : ∀ {vs : List V} {ds : List D}, DtA S H vs ds → ∀ {i : Nat} {v : V}, vs[i]? = some v → ∃ d, ds[i]? = some d ∧ Dt S H v d
  | _, _, .cons h t, 0, v, e => ⟨_, rfl, by cases e; exact h⟩
  | _, _, .cons h t, i + 1, v, e => dtA_at t (i := i) e
  | _, _, .nil, _, _, e => by simp at e
theorem prs_of {C : Addr} {G : D → D → Prop} {S : Addr → Prop} {H : Hp} {vs us : List V} {xs ys : List D} (h1 : DtA S H vs xs) (h2 : DtA S H us ys) (hl : xs.length = ys.length)
    (q : ∀ (i : Nat) d e, xs[i]? = some d → ys[i]? = some e → (∃ n1 x1 n2 x2, d = .ins C n1 x1 ∧ e = .ins C n2 x2) ∧ G d e) : L2.Prs (L2.DIns C (Like C G)) vs us H := by
  refine ⟨by rw [h1.length, h2.length, hl], fun i x y hx hy => ?_⟩
  obtain ⟨d, hd, k1⟩ := dtA_at h1 hx
  obtain ⟨e, he, k2⟩ := dtA_at h2 hy
  obtain ⟨⟨n1, x1, n2, x2, rfl, rfl⟩, g⟩ := q i d e hd he
  have m1 := Dt.set (S' := N0) (fun _ _ _ z => z) _ k1
  have m2 := Dt.set (S' := N0) (fun _ _ _ z => z) _ k2
  cases k1 with
  | ins _ ha _ _ => cases k2 with
    | ins _ hb _ _ => exact ⟨_, _, _, _, _, _, rfl, rfl, ha, hb, n1, x1, n2, x2, m1, m2, g⟩
instance op_eqRowD {K : PySem.W.Frag} {C : Addr} {G : D → D → Prop} : OpD (L2.rEqG (EqRow K C G)) (rEqRowD C G) := ⟨fun S M H x y dx dy P Q w hx hy h k => by
  obtain ⟨xs, ys, c, hl, q, p⟩ := h
  refine ⟨?_, fun H' e => k _ S M _ H' p (.same e) (w.same e) (.bl _)⟩
  rcases c with ⟨rfl, rfl⟩ | ⟨rfl, rfl⟩
  · cases hx with
    | lst _ ha hs => cases hy with
      | lst _ hb ht => exact .inl ⟨_, _, _, _, rfl, rfl, ha, hb, prs_of hs ht hl q⟩
  · cases hx with
    | tup _ ha hs => cases hy with
      | tup _ hb ht => exact .inr ⟨_, _, _, _, rfl, rfl, SqT.of ha, SqT.of hb, prs_of hs ht hl q⟩⟩
end V
namespace V
open PySem PySem.Spec PyProof.Rows L2 U StX
section
variable {X : Cx}
/-- t.index(x), all ints or all texts: the first place -/
def rTIdx (K : PySem.W.Frag) : V → List V → Hp → VK → Prop := fun x xs H Q => ∃ p j, x = .ref p ∧ ((∃ (ys : List Str) (z : Str), xs = [.str z] ∧ SqT K H p (ys.map V.str) ∧ ys[j]? = some z ∧ (∀ m, m < j → ys[m]? ≠ some z)) ∨
  ∃ (ys : List Int) (z : Int), xs = [.int z] ∧ SqT K H p (ys.map V.int) ∧ ys[j]? = some z ∧ (∀ m, m < j → ys[m]? ≠ some z)) ∧ Q (.int (j : Nat)) H
end
/-- t.index(x), t such a tuple -/
def tTIdx (K : PySem.W.Frag) (to : TE) (t : TA) : TE := fun σ H Q => to σ H fun x H1 => (∃ p o xs, x = .ref p ∧ H1 p = some (.frz o (.tup xs)) ∧ o.dict = none) ∧ t σ H1 fun xs H2 => rTIdx K x xs H2 Q
section
variable {X : Cx} {o e : Expr} {es : List Expr} {to : TE} {t : TA} {apos cpos : Pos}
/-- (.., ..), a tuple known to have no dict -/
def tTupF (t : TA) : TE := fun σ H Q => t σ H fun xs H1 => xs.length ≤ sizeLine ∧ ∀ p o, H1 p = none → o.dict = none → Q (.ref p) (upd H1 p (.frz o (.tup xs)))
/-- tuple(xs), xs a list: a tuple known to have no dict -/
def kTupF (K : PySem.W.Frag) (x : V) (H : Hp) (Q : VK) : Prop := ∃ p xs, x = .ref p ∧ SqL K H p xs ∧ ∀ q o, H q = none → o.dict = none → Q (.ref q) (upd H q (.frz o (.tup xs)))
end
/-- x.index(y) -/
def idxAt (xs ds : List D) (j : Nat) : Prop := (∃ (ys : List Str) (z : Str), ds = [.str z] ∧ xs = ys.map D.str ∧ ys[j]? = some z ∧ (∀ m, m < j → ys[m]? ≠ some z)) ∨
  ∃ (ys : List Int) (z : Int), ds = [.int z] ∧ xs = ys.map D.int ∧ ys[j]? = some z ∧ (∀ m, m < j → ys[m]? ≠ some z)
def dTIdx (a : DE) (b : DA) : DE := fun δ M P => a δ M fun x M1 => ∃ xs, x = .ftp xs ∧ b δ M1 fun ds M2 => ∃ j, idxAt xs ds j ∧ P (.int (j : Nat)) M2
instance pu_tidx {K : PySem.W.Frag} {ta : TE} {tb : TA} {da : DE} {db : DA} [A : PuE ta da] [B : PuA tb db] : PuE (tTIdx K ta tb) (dTIdx da db) := ⟨fun S M σ δ H P Q w e h k =>
  A.run S M σ δ H _ _ w e h fun d S1 M1 v H1 p1 t1 w1 h1 => by
    obtain ⟨xs, rfl, p1⟩ := p1
    have h1' := h1
    cases h1 with
    | @ftp a ob vs _ n ha hd hs =>
      refine ⟨⟨a, ob, vs, rfl, ha, hd⟩, B.run S1 M1 σ δ H1 _ _ w1 (e.step w t1) p1 fun d2 S2 M2 v2 H2 p2 t2 w2 h2 => ?_⟩
      obtain ⟨j, p2, q⟩ := p2
      have h3 := dt_step w1 t2 _ h1'
      cases h3 with
      | @ftp _ o3 us _ n3 ha3 hd3 hs3 =>
        rcases p2 with ⟨ys, z, rfl, rfl, hy, hno⟩ | ⟨ys, z, rfl, rfl, hy, hno⟩
        · have eu := hs3.strs_eq
          subst eu
          match v2, h2 with
          | [_], .cons (.str _) .nil => exact ⟨a, j, rfl, .inl ⟨ys, z, rfl, Or.inl (Or.inr ⟨_, ha3⟩), hy, hno⟩, k _ S2 M2 _ H2 q (t1.trans t2) w2 (.int _)⟩
        · have eu := hs3.ints_eq
          subst eu
          match v2, h2 with
          | [_], .cons (.int _) .nil => exact ⟨a, j, rfl, .inr ⟨ys, z, rfl, Or.inl (Or.inr ⟨_, ha3⟩), hy, hno⟩, k _ S2 M2 _ H2 q (t1.trans t2) w2 (.int _)⟩⟩
def dTupF (t : DA) : DE := fun δ M P => t δ M fun xs M1 => xs.length ≤ sizeLine ∧ P (.ftp xs) M1
instance pu_tupF {t : TA} {dt : DA} [A : PuA t dt] : PuE (tTupF t) (dTupF dt) := ⟨fun S M σ δ H P Q w e h k =>
  A.run S M σ δ H _ _ w e h fun d S1 M1 v H1 p1 t1 w1 h1 => ⟨by rw [h1.length]; exact p1.1, fun p o np hd =>
    k _ S1 M1 _ _ p1.2 (t1.trans (.new np)) (w1.new np) (.ftp (w1.ns np) upd_same hd (h1.sm (Same.new np)))⟩⟩
theorem x_tupF {t : DA} {δ : Dl} {M : Mem} {P : QD} (h : t δ M fun xs M1 => xs.length ≤ sizeLine ∧ P (.ftp xs) M1) : dTupF t δ M P := h
def kTupF1 (x : D) (M : Mem) (P : QD) : Prop := ∃ xs, isLs M x xs ∧ P (.ftp xs) M
instance pu_tupOfF {K : PySem.W.Frag} {ta : TE} {da : DE} [A : PuE ta da] : PuE (tThen ta (kTupF K)) (dThen da kTupF1) := ⟨fun S M σ δ H P Q w e h k =>
  A.run S M σ δ H _ _ w e h fun d S1 M1 v H1 p1 t1 w1 h1 => by
    obtain ⟨xs, h2, p1⟩ := p1
    obtain ⟨a, us, rfl, ha, hs⟩ := ls_get w1 h1 h2
    exact ⟨a, us, rfl, SqL.of ha, fun p o np hd => k _ S1 M1 _ _ p1 (t1.trans (.new np)) (w1.new np) (.ftp (w1.ns np) upd_same hd (hs.sm (Same.new np)))⟩⟩
theorem x_tfL {xs : List D} {M : Mem} {P : QD} (p : P (.ftp xs) M) : kTupF1 (.lst xs) M P := ⟨xs, .inl rfl, p⟩
def dPopAt (a : DE) (b : DA) : DE := fun δ M P => a δ M fun x M1 => ∃ l, x = .ptr l ∧ (∃ xs, M1 l = some (.lst xs)) ∧ b δ M1 fun ys M2 => ∃ xs i d, ys = [.int (i : Nat)] ∧ M2 l = some (.lst xs) ∧ i < 1000000 ∧ xs[i]? = some d ∧ P d (mset M2 l (.lst (xs.eraseIdx i)))
theorem dtA_erase {S : Addr → Prop} {H : Hp} : ∀ {vs : List V} {ds : List D} (i : Nat), DtA S H vs ds → DtA S H (vs.eraseIdx i) (ds.eraseIdx i)
  | [], [], _, .nil => .nil
  | _ :: _, _ :: _, 0, .cons _ t => t
  | _ :: _, _ :: _, i + 1, .cons h t => .cons h (dtA_erase i t)
theorem seqIx_nat {i n : Nat} (h : i < n) : seqIndex? ((i : Nat) : Int) n = some i := by
  unfold seqIndex?
  simp only [show ¬ (((i : Nat) : Int) < 0) by omega, if_false]
  simp [show ((i : Nat) : Int) < (n : Nat) by omega]
instance pu_popAt {K : PySem.W.Frag} {ta : TE} {tb : TA} {da : DE} {db : DA} [A : PuE ta da] [B : PuA tb db] : PuE (tBM K "list" rPopAt ta tb) (dPopAt da db) := ⟨fun S M σ δ H P Q w e h k =>
  A.run S M σ δ H _ _ w e h fun d S1 M1 v H1 p1 t1 w1 h1 => by
    obtain ⟨l, rfl, ⟨xs, hx⟩, p1⟩ := p1
    cases h1
    obtain ⟨_, vs, ha, hs⟩ := w1.mem l _ hx
    refine ⟨.inl ⟨rfl, _, SqL.of ha⟩, B.run S1 M1 σ δ H1 _ _ w1 (e.step w t1) p1 fun d2 S2 M2 v2 H2 p2 t2 w2 h2 => ?_⟩
    obtain ⟨xs, i, y, rfl, hm, hlt, hy, p2⟩ := p2
    obtain ⟨sl, vs, ha, hs⟩ := w2.mem l _ hm
    match v2, h2 with
    | [_], .cons (.int _) .nil =>
      have ex : Ext S2 H2 (upd H2 l (.lst (vs.eraseIdx i))) := Ext.mut (Ext.refl _) sl
      obtain ⟨u, hu, hd⟩ := hs.get hy
      have hvi : i < vs.length := (List.getElem?_eq_some_iff.mp hu).1
      exact ⟨l, vs, _, i, u, rfl, rfl, ha, by omega, by omega, seqIx_nat hvi, hu, k _ _ _ _ _ p2 ((t1.trans t2).trans (.change hm)) (w2.change hm ⟨_, upd_same, (dtA_erase i hs).go ex⟩) (hd.go ex)⟩⟩
def tLstRgM (t : TR) : TE := tLstRg t
def dLstRgM (t : DRg) : DE := fun δ M P => t δ M fun a b M1 => RgOk a b ∧ ∀ q, M1 q = none → P (.ptr q) (mset M1 q (.lst (rgD a b)))
instance pu_lstRgM {t : TR} {dt : DRg} [A : PuRg t dt] : PuE (tLstRgM t) (dLstRgM dt) := ⟨fun S M σ δ H P Q w e h k =>
  A.run S M σ δ H _ _ w e h fun i j S1 M1 H1 p1 t1 w1 => ⟨p1.1, fun p np => k _ _ _ _ _ (p1.2 p (w1.fresh np)) (t1.trans (Step.mutable w1 np)) (w1.mutable np ⟨_, upd_same, (DtA.set (fun b n k z => z.elim n fun q => k (by rw [q]; exact np)) _ (dt_rgD (S := S1) (H := H1) i j)).sm (Same.new np)⟩) (.ptr p)⟩⟩
theorem x_lstRgM {t : DRg} {δ : Dl} {M : Mem} {P : QD} (h : t δ M fun a b M1 => RgOk a b ∧ ∀ q, M1 q = none → P (.ptr q) (mset M1 q (.lst (rgD a b)))) : dLstRgM t δ M P := h
end V
namespace V
open PySem PySem.Spec PyProof.Rows L2 U StX
end V
namespace V
open PySem PySem.Spec PyProof.Rows L2 U StX
/-- what is wished of an exception: its class, its fields -/
abbrev QX := Addr → List (Str × D) → Mem → Prop
def AtX (S : Addr → Prop) (M : Mem) (H : Hp) (q : QX) (E : XK) : Prop := ∀ C fs S' M' d H', q C fs M' → Step S M H S' M' H' → Wo S' M' H' → XF S' H' d fs → E (.ref C) d H'
theorem AtX.go {S S' : Addr → Prop} {M M' : Mem} {H H' : Hp} {q : QX} {E : XK} (a : AtX S M H q E) (t : Step S M H S' M' H') : AtX S' M' H' q E := fun C fs S2 M2 d H2 p t2 w2 x => a C fs S2 M2 d H2 p (t.trans t2) w2 x
abbrev DCX := List D → Mem → QD → QX → Prop
def liftX (sp : DCX) : Sp := fun vs H Q E => ∃ S M ds P q, Wo S M H ∧ DtA S H vs ds ∧ sp ds M P q ∧ AtE S M H P Q ∧ AtX S M H q E
class PuXE (E : XK) (t : TE) (dt : outParam (QX → DE)) : Prop where
  run : ∀ S M σ δ H P q Q, Wo S M H → En S H σ δ → dt q δ M P → AtE S M H P Q → AtX S M H q E → t σ H Q
class PuXS (E : XK) (t : TS) (dt : outParam (QX → DS)) : Prop where
  run : ∀ S M σ δ H nx rt bk ct (D : Ends) q, Wo S M H → En S H σ δ → dt q nx rt bk ct δ M → Lk S M H nx rt bk ct D → AtX S M H q E → t D σ H
abbrev sSeqX (a b : QX → DS) : QX → DS := fun q => sSeq (a q) (b q)
abbrev sDropX (a : QX → DE) : QX → DS := fun q => sDrop (a q)
abbrev sRetX (a : QX → DE) : QX → DS := fun q => sRet (a q)
abbrev sIfX (c : DT) (a b : QX → DS) : QX → DS := fun q => sIf c (a q) (b q)
abbrev sAsgX (a : QX → DE) (g : DG) : QX → DS := fun q => sAsg (a q) g
abbrev sForX (i : DI) (g : DG) (a : QX → DS) : QX → DS := fun q => sFor i g (a q)
section
variable {E : XK} {ta : TE} {da : DE} {t u : TS} {dt du : QX → DS} {dtp : DS} {dx : QX → DE}
instance (priority := low) pux_liftE [A : PuE ta da] : PuXE E ta (fun _ => da) := ⟨fun S M σ δ H P q Q w e h k _ => A.run S M σ δ H P Q w e h k⟩
instance (priority := low) pux_liftS [A : PuS t dtp] : PuXS E t (fun _ => dtp) := ⟨fun S M σ δ H nx rt bk ct D q w e h l _ => A.run S M σ δ H nx rt bk ct D w e h l⟩
instance pux_seq [A : PuXS E t dt] [B : PuXS E u du] : PuXS E (tSeq t u) (sSeqX dt du) := ⟨fun S M σ δ H nx rt bk ct D q w e h l x =>
  A.run S M σ δ H _ _ _ _ _ q w e h ⟨fun δ1 S1 M1 σ1 H1 p1 t1 w1 e1 => B.run S1 M1 σ1 δ1 H1 nx rt bk ct D q w1 e1 p1 (l.go t1) (x.go t1), l.rt, l.bk, l.ct⟩ x⟩
instance pux_drop [A : PuXE E ta dx] : PuXS E (tDrop ta) (sDropX dx) := ⟨fun S M σ δ H nx rt bk ct D q w e h l x =>
  A.run S M σ δ H _ q _ w e h (fun d S1 M1 v H1 p1 t1 w1 h1 => l.nx _ S1 M1 _ H1 p1 t1 w1 (e.step w t1)) x⟩
instance pux_ret [A : PuXE E ta dx] : PuXS E (tRet ta) (sRetX dx) := ⟨fun S M σ δ H nx rt bk ct D q w e h l x => A.run S M σ δ H _ q _ w e h l.rt x⟩
instance pux_ifS {c : TT} {dc : DT} [C : PuT c dc] [A : PuXS E t dt] [B : PuXS E u du] : PuXS E (tIfS c t u) (sIfX dc dt du) := ⟨fun S M σ δ H nx rt bk ct D q w e h l x =>
  C.run S M σ δ H _ _ w e h fun b S1 M1 H1 p1 t1 w1 => by
    cases b with
    | true =>
      rw [if_pos rfl] at p1 ⊢
      exact A.run S1 M1 σ δ H1 nx rt bk ct D q w1 (e.step w t1) p1 (l.go t1) (x.go t1)
    | false =>
      rw [if_neg Bool.false_ne_true] at p1 ⊢
      exact B.run S1 M1 σ δ H1 nx rt bk ct D q w1 (e.step w t1) p1 (l.go t1) (x.go t1)⟩
instance pux_asg {g : TG} {dg : DG} {sl : List Nat} [A : PuXE E ta dx] [B : PuG g dg sl] : PuXS E (tAsg ta g) (sAsgX dx dg) := ⟨fun S M σ δ H nx rt bk ct D q w e h l x =>
  A.run S M σ δ H _ q _ w e h (fun d S1 M1 v H1 p1 t1 w1 h1 =>
    B.run S1 M1 σ δ H1 v d _ _ w1 (e.step w t1) h1 p1 fun δ2 S2 M2 σ2 H2 p2 t2 w2 e2 _ => l.nx δ2 S2 M2 σ2 H2 p2 (t1.trans t2) w2 e2) x⟩
instance pux_for {ti : TI} {g : TG} {di : DI} {dg : DG} {sl : List Nat} [I : PuI ti di] [A : PuG g dg sl] [B : PuXS E t dt] : PuXS E (tFor ti g t) (sForX di dg dt) := ⟨fun S M σ δ H nx rt bk ct D q w e h l xx =>
  I.run S M σ δ H _ _ w e h fun G xs S1 M1 H1 J p1 t1 w1 wk => by
    refine ⟨fun i m σ' H' => i ≤ xs.length ∧ m = xs.length - i ∧ ∃ S' M' δ', G M' ∧ dLoop G dg (dt q) nx rt (xs.drop i) δ' M' ∧ Step S1 M1 H1 S' M' H' ∧ Wo S' M' H' ∧ En S' H' σ' δ', ⟨_, Nat.zero_le _, rfl, S1, M1, δ, p1.1, p1.2, .refl, w1, e.step w t1⟩, ?_⟩
    rintro i m σ2 H2 ⟨hi, rfl, S2, M2, δ2, g2, p2, t2, w2, e2⟩
    by_cases hlt : i < xs.length
    · refine .inr ⟨wk.go i S2 M2 H2 hlt t2 w2 g2, fun σ' H' => ∃ S' M' δ', G M' ∧ dLoop G dg (dt q) nx rt (xs.drop (i + 1)) δ' M' ∧ Step S1 M1 H1 S' M' H' ∧ Wo S' M' H' ∧ En S' H' σ' δ', ?_, ?_⟩
      · rintro σ' H' q
        exact ⟨_, by omega, hlt, rfl, q⟩
      · intro x H3 y
        obtain ⟨same, d, hd, hx⟩ := wk.yld i S2 M2 H2 x H3 hlt t2 w2 g2 y
        rw [drop_cons hd] at p2
        have t3 : Step S2 M2 H2 S2 M2 H3 := .same same
        have w3 := w2.same same
        refine A.run S2 M2 σ2 δ2 H3 x d _ _ w3 (e2.step w2 t3) hx p2 fun δ4 S4 M4 σ4 H4 p4 t4 w4 e4 _ => ?_
        have t14 := (t2.trans t3).trans t4
        refine B.run S4 M4 σ4 δ4 H4 _ _ _ _ _ q w4 e4 p4 ⟨?_, l.rt.go (t1.trans t14), fun a b c d e p t5 w f => l.nx a b c d e p ((t1.trans t14).trans t5) w f, ?_⟩ (xx.go (t1.trans t14))
        · rintro δ5 S5 M5 σ5 H5 ⟨g5, p5⟩ t5 w5 e5
          exact ⟨S5, M5, δ5, g5, p5, t14.trans t5, w5, e5⟩
        · rintro δ5 S5 M5 σ5 H5 ⟨g5, p5⟩ t5 w5 e5
          exact ⟨S5, M5, δ5, g5, p5, t14.trans t5, w5, e5⟩
    · have ei : i = xs.length := by omega
      subst ei
      rw [List.drop_length] at p2
      exact .inl ⟨wk.stop S2 M2 H2 t2 w2 g2, l.nx _ S2 M2 _ H2 p2 (t1.trans t2) w2 e2⟩⟩
end
def dCallX (sp : DCX) (q : QX) (t : DA) : DE := fun δ M P => t δ M fun ds M1 => sp ds M1 P q
def dCallNX (n m : Nat) (sp : DCX) (g : List D → List D → List D) (q : QX) (t tk : DA) : DE := fun δ M P => t δ M fun ds M1 => tk δ M1 fun es M2 => ds.length = n ∧ es.length = m ∧ sp (g ds es) M2 P q
/-- .. made in C(..), where it fails nothing of it is left -/
def rMakeFX (C : Addr) (sp : DCX) (q : QX) : DC := fun ds M P => ∀ x, M x = none → sp (.ptr x :: ds) (mset M x (.ins C [])) (fun d M2 => d = .non ∧ ∃ fs, M2 x = some (.ins C fs) ∧ P (.ins C (fs.map (·.1)) (fs.map (·.2))) (mdel M2 x)) fun C' fs M2 => ∃ M0, Mle M0 M2 ∧ q C' fs M0
def liftXF (sp : DCX) : Sp := liftX sp
section
variable {E : XK} {t tk : TA} {dt dk : DA} {sp : DCX} {C : Addr}
instance pux_call [A : PuA t dt] : PuXE E (tCall (liftX sp) [] E t) (fun q => dCallX sp q dt) := ⟨fun S M σ δ H P q Q w e h k x =>
  A.run S M σ δ H _ _ w e h fun ds S1 M1 vs H1 p1 t1 w1 h1 => by
    rw [List.append_nil]
    exact ⟨S1, M1, ds, P, q, w1, h1, p1, k.go t1, x.go t1⟩⟩
instance pux_callN {n l : Nat} {gV : List V → List V → List V} {gD : List D → List D → List D} [A : PuA t dt] [B : PuA tk dk] [G : RelG gV gD] : PuXE E (tCallN n l (liftX sp) gV E t tk) (fun q => dCallNX n l sp gD q dt dk) := ⟨fun S M σ δ H P q Q w e h k x =>
  A.run S M σ δ H _ _ w e h fun ds S1 M1 vs H1 p1 t1 w1 h1 =>
    B.run S1 M1 σ δ H1 _ _ w1 (e.step w t1) p1 fun es S2 M2 zs H2 p2 t2 w2 h2 => by
      obtain ⟨l1, l2, p2⟩ := p2
      exact ⟨by rw [h1.length]; exact l1, by rw [h2.length]; exact l2, S2, M2, _, P, q, w2, G.run S2 H2 _ _ _ _ (dtA_step w1 t2 _ h1) h2, p2, k.go (t1.trans t2), x.go (t1.trans t2)⟩⟩
theorem AtX.left {S S1 : Addr → Prop} {M M1 : Mem} {H H1 : Hp} {q : QX} (x : AtX S M H q E) (t : Step S M H S1 M1 H1) : AtX S1 M1 H1 (fun C fs M2 => ∃ M0, Mle M0 M2 ∧ q C fs M0) E := fun C fs S2 M2 d H2 p t2 w2 xf => by
  obtain ⟨M0, l, p⟩ := p
  refine x C fs S2 M0 d H2 p ⟨fun b o e1 e2 => ?_⟩ (w2.drop l) xf
  obtain ⟨h1, h2, h3⟩ := (t.trans t2).keep b o e1 e2
  refine ⟨h1, ?_, h3⟩
  cases e : M0 b with
  | none => rfl
  | some mo => rw [l b mo e] at h2; cases h2
theorem makeFX_go {S : Addr → Prop} {M : Mem} {H : Hp} {P : QD} {q : QX} {Q : VK} {vs : List V} {ds : List D} {x dx : Addr} (w : Wo S M H) (h : DtA S H vs ds) (p : rMakeFX C sp q ds M P) (k : AtE S M H P Q) (xx : AtX S M H q E) (nx : H x = none) (nd : H dx = none) (ne : dx ≠ x) :
    liftXF sp (.ref x :: vs) (upd (upd H dx (.own x)) x (.ins C dx [])) (fun v H2 => v = .non ∧ Q (.ref x) H2) E := by
  obtain ⟨w1, t1⟩ := new_ins (C := C) w nx nd ne
  refine ⟨_, _, _, _, _, w1, .cons (.ptr x) (dtA_step w t1 _ h), p x (w.fresh nx), fun d S2 M2 v H2 q t2 w2 hv => ?_, xx.left t1⟩
  obtain ⟨rfl, fs, hm, q⟩ := q
  cases hv
  obtain ⟨sx, dx', gs, ha, hn, hs⟩ := w2.mem x _ hm
  have t3 := (t1.trans t2).trans (Step.freeze (S := S2) (H := H2) hm)
  exact ⟨rfl, k _ _ _ _ H2 q t3 w2.freeze (.ins (fun z => z.2 rfl) ha hn (dtA_freeze hs))⟩
instance pux_makeF [A : PuA t dt] : PuXE E (tMake C (liftXF sp) [] E t) (fun q => dCB (rMakeFX C sp q) dt) := ⟨fun S M σ δ H P q Q w e h k xx =>
  A.run S M σ δ H _ _ w e h fun ds S1 M1 vs H1 p1 t1 w1 h1 x dx nx nd ne => by
    rw [List.append_nil]
    exact makeFX_go w1 h1 p1 (k.go t1) (xx.go t1) nx nd ne⟩
instance pux_makeF3210 {n : Nat} [B : PuA tk dk] : PuXE E (tMakeK C 0 n (liftXF sp) (fun us ws => us ++ pk3_2_1_0 ws) E tNil tk) (fun q => dMakeK (rMakeFX C sp q) d3210 n dk) := ⟨fun S M σ δ H P q Q w e h k xx =>
  B.run S M σ δ H _ _ w e h fun es S2 M2 zs H2 p2 t2 w2 h2 => ⟨rfl, by rw [h2.length]; exact p2.1, fun x dx nx nd ne => makeFX_go w2 (pk3_2_1_0_dt h2) p2.2 (k.go t2) (xx.go t2) nx nd ne⟩⟩
instance pux_makeF10 {n : Nat} [B : PuA tk dk] : PuXE E (tMakeK C 0 n (liftXF sp) (fun us ws => us ++ pk1_0 ws) E tNil tk) (fun q => dMakeK (rMakeFX C sp q) d10 n dk) := ⟨fun S M σ δ H P q Q w e h k xx =>
  B.run S M σ δ H _ _ w e h fun es S2 M2 zs H2 p2 t2 w2 h2 => ⟨rfl, by rw [h2.length]; exact p2.1, fun x dx nx nd ne => makeFX_go w2 (pk1_0_dt h2) p2.2 (k.go t2) (xx.go t2) nx nd ne⟩⟩
end
/-- the own __init__ of an exception with one field -/
def spExI (C : Addr) (f : Str) : Sp := fun vs H Q _ => ∃ (a : Addr) (y : V), vs = [.ref a, y] ∧ H a = some (exo a C none) ∧ ∀ dx, H dx = none → dx ≠ a → Q .non (upd (upd H dx (exd dx [(f, y)])) a (exo a C (some dx)))
/-- raise C(e) -/
def tRaiseX (E : XK) (C : Addr) (f : Str) (te : TE) : TS := fun _ σ H => tMkO C (spExI C f) [] (tCons te tNil) σ H E
theorem upd_back {H : Hp} {a d : Addr} {o1 o2 o3 o4 : HO} (n : H a = none) (nd : d ≠ a) : upd (del (upd (upd (upd H a o1) d o2) a o3) a) d o4 = upd H d o4 := by
  funext b
  by_cases h1 : b = d
  · rw [h1, upd_same, upd_same]
  · rw [upd_ne h1, upd_ne h1]
    by_cases h2 : b = a
    · rw [h2, del_same, n]
    · rw [del_ne h2, upd_ne h2, upd_ne h1, upd_ne h2]
def sRaiseX (C : Addr) (f : Str) (q : QX) (a : DE) : DS := fun _ _ _ _ δ M => a δ M fun y M1 => q C [(f, y)] M1
instance pux_raise {E : XK} {C : Addr} {f : Str} {te : TE} {da : DE} [A : PuE te da] : PuXS E (tRaiseX E C f te) (fun q => sRaiseX C f q da) := ⟨fun S M σ δ H nx rt bk ct D q w e h l x =>
  A.run S M σ δ H _ _ w e h fun d S1 M1 v H1 p1 t1 w1 h1 => by
    refine ⟨by simp, fun a na => ⟨a, v, rfl, upd_same, fun dx nd ne => ?_⟩⟩
    have nd1 : H1 dx = none := by rw [upd_ne ne] at nd; exact nd
    refine ⟨rfl, dx, [(f, v)], upd_same, by rw [upd_ne ne, upd_same], nd1, ?_⟩
    rw [upd_back na ne]
    exact x C [(f, d)] S1 M1 (some dx) _ p1 (t1.trans (.new nd1)) (w1.new nd1) (.inr ⟨dx, _, rfl, w1.ns nd1, upd_same, rfl, .cons (h1.sm (Same.new nd1)) .nil⟩)⟩
section
variable {δ : Dl} {M : Mem} {P : QD} {a : DE} {t tk : DA} {nx bk ct : QS} {rt : QD} {q : QX}
theorem x_callX {sp : DCX} (h : t δ M fun ds M1 => sp ds M1 P q) : dCallX sp q t δ M P := h
theorem x_callNX {n m : Nat} {sp : DCX} {f : List D → List D → List D} (h : t δ M fun ds M1 => tk δ M1 fun es M2 => ds.length = n ∧ es.length = m ∧ sp (f ds es) M2 P q) : dCallNX n m sp f q t tk δ M P := h
theorem x_raiseX {C : Addr} {f : Str} (h : a δ M fun y M1 => q C [(f, y)] M1) : sRaiseX C f q a nx rt bk ct δ M := h
end
end V
namespace V
open PySem PySem.Spec PyProof.Rows L2 U StX
/-- the rows of an _law_ended: class, word, attribute -/
abbrev ERow := Addr × Str × Str
end V
namespace V
open PySem PySem.Spec PyProof.Rows L2 U StX
/-- what is told of an error: the row of its class -/
def endX (rows : List ERow) (Q : VK) (cls : Value) (d : Option Addr) (H : Hp) : Prop := ∃ (C dd : Addr) (name f : Str) (fs : List (Str × V)) (v : V), (C, name, f) ∈ rows ∧ cls = .ref C ∧ d = some dd ∧ H dd = some (.xd fs) ∧ fs.lookup f = some v ∧ ∀ p, H p = none → Q (.ref p) (upd H p (.lst [.str name, v, .bl true]))
def givenX (Q : VK) (v : V) (H : Hp) : Prop := ∀ p, H p = none → Q (.ref p) (upd H p (.lst [.str (Str.ofString "given"), v]))
def TTend (rows : List ERow) : (XK → Hp → VK → Prop) → Hp → VK → Prop := fun tl H Q => ∀ K2 : VK, (∀ v H', givenX Q v H' → K2 v H') → tl (endX rows Q) H K2
end V
namespace V
open PySem PySem.Spec PyProof.Rows L2 U StX
/-- what the making of a lambda does to the heap: its code object is found, or a new one stands in the table at P -/
def LamTo (H : Hp) (P : Addr) (q : Str) (H1 : Hp) : Prop := H1 = H ∨ ∃ (ps : Array Value) (pos : Pos) (c : Addr), H P = some (.tbl ps) ∧ H c = none ∧ H1 = upd (upd H P (.tbl (ps ++ #[rawInt pos.line, rawInt pos.col, .ref c]))) c (LamX.CodeO c q)
def tLamP (P : Addr) (q : Str) (TT : (XK → Hp → VK → Prop) → Hp → VK → Prop) (t : XK → TE) : TE := fun σ H Q => LamX.TabS H P q ∧ ∀ H1, LamTo H P q H1 → TT (fun E H' Q' => t E σ H' Q') H1 Q
theorem lam_to {S : Addr → Prop} {M : Mem} {H H1 : Hp} {P : Addr} {q : Str} (w : Wo S M H) (hm : M P = some (.tab q)) (l : LamTo H P q H1) : Wo S M H1 ∧ Step S M H S M H1 := by
  rcases l with rfl | ⟨ps, pos, c, hP, nC, rfl⟩
  · exact ⟨w, .refl⟩
  · have sP := (w.mem P _ hm).1
    obtain ⟨ps', hP', ht, ha⟩ := (w.mem P _ hm).2
    rw [hP] at hP'
    cases hP'
    have nPc : P ≠ c := fun z => by rw [z, nC] at hP; cases hP
    have e1 : upd (upd H P (.tbl (ps ++ #[rawInt pos.line, rawInt pos.col, .ref c]))) c (LamX.CodeO c q) = upd (upd H c (LamX.CodeO c q)) P (.tbl (ps ++ #[rawInt pos.line, rawInt pos.col, .ref c])) := by
      funext b
      by_cases h1 : b = P
      · rw [h1, upd_ne nPc, upd_same, upd_same]
      · by_cases h2 : b = c
        · rw [h2, upd_same, upd_ne (Ne.symm nPc), upd_same]
        · rw [upd_ne h2, upd_ne h1, upd_ne h1, upd_ne h2]
    have e2 : mset M P (.tab q) = M := by
      funext b
      by_cases h1 : b = P
      · rw [h1, mset_same, hm]
      · rw [mset_ne h1]
    have w1 := w.new (o := LamX.CodeO c q) nC
    have eL : (ps ++ #[rawInt pos.line, rawInt pos.col, .ref c]).toList = ps.toList ++ [rawInt pos.line, rawInt pos.col, .ref c] := by simp
    have hk : Held S (upd (upd H c (LamX.CodeO c q)) P (.tbl (ps ++ #[rawInt pos.line, rawInt pos.col, .ref c]))) P (.tab q) := by
      refine ⟨_, upd_same, by rw [eL]; exact PySem.TriplesOk_snoc _ _ _ _ ht, fun p' cv hcv => ?_⟩
      rw [eL] at hcv
      rcases LamX.among_app _ ht hcv with z | z
      · obtain ⟨c0, a1, a2, a3⟩ := ha p' cv z
        have n0 : c0 ≠ P := fun y => by
          rw [y, hP] at a2
          exact LamX.codeO_ne ps (Option.some.inj a2).symm
        exact ⟨c0, a1, by rw [upd_ne n0]; exact Same.new nC _ _ a2, a3⟩
      · exact ⟨c, z, by rw [upd_ne (Ne.symm nPc), upd_same], w.ns nC⟩
    have w2 := w1.change hm hk
    have t2 := Step.change (S := S) (H := upd H c (LamX.CodeO c q)) (o := .tbl (ps ++ #[rawInt pos.line, rawInt pos.col, .ref c])) (mo' := .tab q) hm
    rw [e2] at w2 t2
    rw [e1]
    exact ⟨w2, (Step.new nC).trans t2⟩
/-- what is told of an error, over data -/
def endQ (rows : List ERow) (R : QD) : QX := fun C fs M => ∃ (name f : Str) (x : D), (C, name, f) ∈ rows ∧ fs.lookup f = some x ∧ R (.lst [.str name, x, .bl true]) M
def dLamE (P : Addr) (q : Str) (rows : List ERow) (dt : QX → DE) : DE := fun δ M R => M P = some (.tab q) ∧ dt (endQ rows R) δ M fun d M' => R (.lst [.str (Str.ofString "given"), d]) M'
theorem lookup_dt {S : Addr → Prop} {H : Hp} {f : Str} {x : D} : ∀ {gs : List (Str × V)} {fs : List (Str × D)}, gs.map (·.1) = fs.map (·.1) → DtA S H (gs.map (·.2)) (fs.map (·.2)) → fs.lookup f = some x → ∃ v, gs.lookup f = some v ∧ Dt S H v x
  | [], [], _, _, h => by cases h
  | [], _ :: _, e, _, _ => by cases e
  | _ :: _, [], e, _, _ => by cases e
  | (a, v) :: gs, (b, y) :: fs, e, d, h => by
    simp only [List.map_cons, List.cons.injEq] at e
    obtain ⟨rfl, e⟩ := e
    cases d with
    | cons d1 d2 =>
      rw [List.lookup_cons] at h ⊢
      cases c : f == a with
      | true =>
        rw [c] at h
        cases h
        exact ⟨v, rfl, d1⟩
      | false =>
        rw [c] at h
        exact lookup_dt e d2 h
instance pu_lamE {P : Addr} {q : Str} {rows : List ERow} {t : XK → TE} {dt : QX → DE} [A : ∀ E, PuXE E (t E) dt] : PuE (tLamP P q (TTend rows) t) (dLamE P q rows dt) := ⟨fun S M σ δ H R Q w e h k => by
  obtain ⟨hm, h⟩ := h
  obtain ⟨ps, hP, ht, ha⟩ := (w.mem P _ hm).2
  refine ⟨⟨ps, hP, ht, fun pos cv hc => let ⟨c, a1, a2, _⟩ := ha pos cv hc; ⟨c, a1, a2⟩⟩, fun H1 l K2 hK => ?_⟩
  obtain ⟨w1, t1⟩ := lam_to w hm l
  have lst : ∀ {S2 : Addr → Prop} {M2 : Mem} {H2 : Hp} {vs : List V} {ds : List D}, Step S M H S2 M2 H2 → Wo S2 M2 H2 → DtA S2 H2 vs ds → R (.lst ds) M2 → ∀ p, H2 p = none → Q (.ref p) (upd H2 p (.lst vs)) := fun t2 w2 d r p np =>
    k _ _ _ _ _ r (t2.trans (.new np)) (w2.new np) (.lst (w2.ns np) upd_same (d.sm (Same.new np)))
  refine (A _).run S M σ δ H1 _ (endQ rows R) _ w1 (e.step w t1) h (fun d S2 M2 v H2 r t2 w2 hd => hK _ _ fun p np => lst (t1.trans t2) w2 (.cons (.str _) (.cons hd .nil)) r p np) (fun C fs S2 M2 d H2 r t2 w2 xf => ?_)
  obtain ⟨name, f, x, hr, hl, r⟩ := r
  rcases xf with ⟨_, rfl⟩ | ⟨dd, gs, rfl, nd, hx, e1, e2⟩
  · cases hl
  · obtain ⟨v, hv, hd⟩ := lookup_dt e1 e2 hl
    exact ⟨C, dd, name, f, gs, v, hr, rfl, rfl, hx, hv, fun p np => lst (t1.trans t2) w2 (.cons (.str _) (.cons hd (.cons (.bl true) .nil))) r p np⟩⟩
theorem x_lamE {P : Addr} {q : Str} {rows : List ERow} {dt : QX → DE} {δ : Dl} {M : Mem} {R : QD} (hm : M P = some (.tab q)) (h : dt (endQ rows R) δ M fun d M' => R (.lst [.str (Str.ofString "given"), d]) M') : dLamE P q rows dt δ M R := ⟨hm, h⟩
end V
namespace V
open PySem PySem.Spec PyProof.Rows L2 U StX
/-- an empty dict that does not change -/
def empD (a : Addr) : D := .opq a (.dK [])
def tDNewE : TE := tDNewK
def dDNewE : DE := fun δ M P => ∀ a, P (empD a) M
instance pu_dnewE : PuE tDNewE dDNewE := ⟨fun S M σ δ H P Q w e h k p hp => k _ S M _ _ (h p) (.new hp) (w.new hp) (.opq (w.ns hp) upd_same)⟩
theorem x_dnewE {δ : Dl} {M : Mem} {P : QD} (h : ∀ a, P (empD a) M) : dDNewE δ M P := h
mutual
/-- as Dp, with empty dicts -/
inductive Dq (K : PySem.W.Frag) (H : Hp) : V → PyData → Prop
  | non : Dq K H .non .none
  | bl (b : Bool) : Dq K H (.bl b) (.bool b)
  | int (i : Int) : Dq K H (.int i) (.int i)
  | str (x : Str) : Dq K H (.str x) (.str x)
  | lst {a : Addr} {xs : List V} {ds : List PyData} : SqL K H a xs → DqAll K H xs ds → Dq K H (.ref a) (.list ds)
  | tup {a : Addr} {xs : List V} {ds : List PyData} : SqT K H a xs → DqAll K H xs ds → Dq K H (.ref a) (.tuple ds)
  | emp {a : Addr} : H a = some (.dK []) → Dq K H (.ref a) (.dict [])
inductive DqAll (K : PySem.W.Frag) (H : Hp) : List V → List PyData → Prop
  | nil : DqAll K H [] []
  | cons {v : V} {vs : List V} {d : PyData} {ds : List PyData} : Dq K H v d → DqAll K H vs ds → DqAll K H (v :: vs) (d :: ds)
end
/-- the modules' dict is known -/
def SysK (H : Hp) : Prop := ∃ (o : Obj) (es : Array DictEntry) (ep : Nat), H sysModules = some (.frz o (.ext fun _ => True)) ∧ o.data = .dict es ep
section
variable {X : Cx} {pins : List (Addr × Obj)} {σ : L2.St} {H : Hp} {s : Shared}
theorem seq_ne {a : Addr} {o : Obj} {vs : Array Value} {n : Nat} (I : Inv X pins σ H s) (k : SysK H) (ho : s.heap.get? a = some o) (hd : o.data = .seq vs n) : a ≠ sysModules := fun z => by
  obtain ⟨o1, es, ep, h1, h2⟩ := k
  obtain ⟨e, _⟩ := I.hok _ _ h1
  rw [z, e] at ho
  cases ho
  rw [h2] at hd
  cases hd
mutual
theorem Dq.reads (I : Inv X pins σ H s) : ∀ (d : PyData) (v : V) (u : Value), Dq X.K H v d → RelV v u → ∃ as, Reads s.heap u d as ∧ (SysK H → sysModules ∉ as)
  | .none, _, _, h, r => by
    cases h
    cases r
    exact ⟨_, Reads.none, fun _ => by simp⟩
  | .bool b, _, _, h, r => by
    cases h
    cases r
    exact ⟨_, Reads.bool b, fun _ => by simp⟩
  | .int i, _, _, h, r => by
    cases h
    obtain ⟨t, rfl⟩ := r
    exact ⟨_, Reads.int i t, fun _ => by simp⟩
  | .str x, _, _, h, r => by
    cases h
    obtain ⟨t, rfl⟩ := r
    exact ⟨_, Reads.str x t, fun _ => by simp⟩
  | .list ds, _, _, h, r => by
    cases h with
    | lst hs ha =>
      cases r
      obtain ⟨its, rv, ⟨o, n, ho, hc, _, hd⟩, _⟩ := I.list hs
      obtain ⟨as, hr, hn⟩ := Dq.readsAll I ds _ its ha rv
      exact ⟨_, Reads.list ho hc hd hr, fun k z => (List.mem_cons.mp z).elim (fun e => seq_ne I k ho hd e.symm) (hn k)⟩
  | .tuple ds, _, _, h, r => by
    cases h with
    | tup hs ha =>
      cases r
      obtain ⟨its, rv, ⟨o, ho, hc, n, hd⟩, _⟩ := I.tuple hs
      obtain ⟨as, hr, hn⟩ := Dq.readsAll I ds _ its ha rv
      exact ⟨_, Reads.tuple ho hc hd hr, hn⟩
  | .dict kvs, _, _, h, r => by
    cases h with
    | emp he =>
      cases r
      obtain ⟨_, hne, vs, hk, hD⟩ := I.hok _ _ he
      cases hk
      obtain ⟨o, es, ep, ho, hx, hd, _, hes, _⟩ := hD
      have e0 : es.toList = [] := by
        generalize es.toList = l at hes
        cases hes
        rfl
      refine ⟨_, Reads.dict (kvs := []) (as := []) (bs := []) ho hx.1 hd (by rw [e0]; exact .nil) (by rw [e0]; exact .nil), fun k z => ?_⟩
      have z := List.mem_singleton.mp (by simpa using z)
      rw [← z] at hne
      simp at hne
theorem Dq.readsAll (I : Inv X pins σ H s) : ∀ (ds : List PyData) (vs : List V) (us : List Value), DqAll X.K H vs ds → Vals vs us → ∃ as, ReadsAll s.heap us ds as ∧ (SysK H → sysModules ∉ as)
  | [], _, _, h, r => by
    cases h
    cases r
    exact ⟨_, ReadsAll.nil, fun _ => by simp⟩
  | d :: ds, _, _, h, r => by
    cases h with
    | cons h1 h2 =>
      cases r with
      | cons r1 r2 =>
        obtain ⟨as, q1, n1⟩ := Dq.reads I d _ _ h1 r1
        obtain ⟨bs, q2, n2⟩ := Dq.readsAll I ds _ _ h2 r2
        exact ⟨_, ReadsAll.cons q1 q2, fun k z => (List.mem_append.mp z).elim (n1 k) (n2 k)⟩
end
end
def rReprQ (K : PySem.W.Frag) : List V → Hp → VK → Prop := fun xs H Q => ∃ (v : V) (p : PyData), xs = [v] ∧ Dq K H v p ∧ PyData.showable p = true ∧ SysK H ∧ PyData.depth p ≤ 40 ∧ (PyData.shown p).length ≤ sizeLine ∧ Q (.str (PyData.shown p)) H
theorem call_reprQ {X : Cx} {K : PySem.W.Frag} (hK : X.K = K) (hg : X.A.guards = some []) (hu : X.A.units + 64 < cLine) : CallR X (.builtin "repr") (rReprQ K) := by
  subst hK
  intro pins s σ H xs us Q I r h
  obtain ⟨v, p, rfl, hd, hs, hn, hdp, hz, q⟩ := h
  obtain ⟨u, rfl, ru⟩ := vals1 r
  have fin : ∀ (h' : Heap) (tu : Tok) (tk : Nat), (∀ b o, s.heap.get? b = some o → h'.get? b = some o) → EP X pins σ Q (.str (PyData.shown p) tu) { s with heap := h', toks := tk } :=
    fun h' tu tk hk => ⟨.str (PyData.shown p), H, I.kept hk, ⟨_, rfl⟩, q⟩
  obtain ⟨as, rd, na⟩ := Dq.reads I p v u hd ru
  cases hd with
  | non =>
    cases ru
    rw [PyData.shown_none] at fin
    exact P.repr_of_none (fin _ _ _ fun _ _ e => e)
  | bl b =>
    cases ru
    rw [PyData.shown_bool] at fin
    exact P.repr_of_bool (fin _ _ _ fun _ _ e => e)
  | int i =>
    obtain ⟨t, rfl⟩ := ru
    rw [PyData.shown_int] at fin
    have hi : i.natAbs.log2 < 1920 := by simpa [PyData.showable] using hs
    exact P.repr_of_int hi (fin _ _ _ fun _ _ e => e)
  | str y =>
    obtain ⟨t, rfl⟩ := ru
    rw [PyData.shown_str] at fin hz
    exact P.repr_of_str (fin _ _ _ fun _ _ e => e) hz
  | lst _ _ =>
    cases ru
    exact repr_of_reads' (h₀ := s.heap) rd hs (fun _ => na hn) hg (by omega) (fun _ _ e => e) (fun h' tu tk hk => fin h' tu tk hk) hz
  | tup _ _ =>
    cases ru
    exact repr_of_reads' (h₀ := s.heap) rd hs (fun _ => na hn) hg (by omega) (fun _ _ e => e) (fun h' tu tk hk => fin h' tu tk hk) hz
  | emp _ =>
    cases ru
    exact repr_of_reads' (h₀ := s.heap) rd hs (fun _ => na hn) hg (by omega) (fun _ _ e => e) (fun h' tu tk hk => fin h' tu tk hk) hz
mutual
/-- the data that can be shown, empty dicts among them -/
inductive IsQ : D → PyData → Prop
  | non : IsQ .non .none
  | bl (b : Bool) : IsQ (.bl b) (.bool b)
  | int (i : Int) : IsQ (.int i) (.int i)
  | str (x : Str) : IsQ (.str x) (.str x)
  | lst {ds : List D} {ps : List PyData} : IsQs ds ps → IsQ (.lst ds) (.list ps)
  | tup {ds : List D} {ps : List PyData} : IsQs ds ps → IsQ (.tup ds) (.tuple ps)
  | emp (a : Addr) : IsQ (empD a) (.dict [])
inductive IsQs : List D → List PyData → Prop
  | nil : IsQs [] []
  | cons {d : D} {ds : List D} {p : PyData} {ps : List PyData} : IsQ d p → IsQs ds ps → IsQs (d :: ds) (p :: ps)
end
mutual
theorem isQ_dq {K : PySem.W.Frag} {S : Addr → Prop} {H : Hp} : ∀ {d : D} {p : PyData} {v : V}, IsQ d p → Dt S H v d → Dq K H v p
  | _, _, _, .non, h => by cases h; exact .non
  | _, _, _, .bl b, h => by cases h; exact .bl b
  | _, _, _, .int b, h => by cases h; exact .int b
  | _, _, _, .str b, h => by cases h; exact .str b
  | _, _, _, .lst q, h => by
    cases h with
    | lst n ha hs => exact .lst (SqL.of ha) (isQs_dq q hs)
  | _, _, _, .tup q, h => by
    cases h with
    | tup n ha hs => exact .tup (SqT.of ha) (isQs_dq q hs)
  | _, _, _, .emp a, h => by
    cases h with
    | opq n ha => exact .emp ha
theorem isQs_dq {K : PySem.W.Frag} {S : Addr → Prop} {H : Hp} : ∀ {d : List D} {p : List PyData} {v : List V}, IsQs d p → DtA S H v d → DqAll K H v p
  | _, _, _, .nil, h => by cases h; exact .nil
  | _, _, _, .cons q qs, h => by
    cases h with
    | cons h1 h2 => exact .cons (isQ_dq q h1) (isQs_dq qs h2)
end
def rReprQ1 : DC := fun ds M P => ∃ d p, ds = [d] ∧ IsQ (vw M d) p ∧ M sysModules = some .sys ∧ PyData.showable p = true ∧ PyData.depth p ≤ 40 ∧ (PyData.shown p).length ≤ sizeLine ∧ P (.str (PyData.shown p)) M
instance cb_reprQ {K : PySem.W.Frag} : CbD (rReprQ K) rReprQ1 := ⟨fun S M H vs ds P Q w hv h k => by
  obtain ⟨d, p, rfl, e, hm, h1, h3, h4, q⟩ := h
  have hsys : SysK H := (w.mem _ _ hm).2
  match vs, hv with
  | [v], .cons h0 .nil =>
    refine ⟨v, p, rfl, ?_, h1, hsys, h3, h4, k _ S M _ H q .refl w (.str _)⟩
    cases d with
    | ptr a =>
      unfold vw at e
      cases hma : M a with
      | none => simp only [hma] at e; cases e
      | some mo =>
        cases mo with
        | lst ds =>
          simp only [hma] at e
          cases h0
          obtain ⟨_, vs, g1, g2⟩ := w.mem a _ hma
          cases e with
          | lst qq => exact .lst (SqL.of g1) (isQs_dq qq g2)
        | dic ds => simp only [hma] at e; cases e
        | dct ds => simp only [hma] at e; cases e
        | ins C ds => simp only [hma] at e; cases e
        | tab q => simp only [hma] at e; cases e
        | sys => simp only [hma] at e; cases e
        | xob C fs => simp only [hma] at e; cases e
    | _ => exact isQ_dq e h0⟩
structure PyQ (W k : Nat) (p : PyData) : Prop where
  lv : PyData.leavesShort 1000 p = true
  sh : PyData.showable p = true
  dep : PyData.depth p ≤ k
  wt : PyData.weight p ≤ W
structure PysQ (W k : Nat) (ps : List PyData) : Prop where
  lv : PyData.leavesShortAll 1000 ps = true
  sh : PyData.showableAll ps = true
  dep : PyData.depthAll ps ≤ k
  wt : PyData.weightAll ps ≤ W
def okQ (W k : Nat) (d : D) : Prop := ∃ p, IsQ d p ∧ PyQ W k p
def okQs (W k : Nat) (ds : List D) : Prop := ∃ ps, IsQs ds ps ∧ PysQ W k ps
theorem okQ.mono {W W' k k' : Nat} {d : D} : okQ W k d → W ≤ W' → k ≤ k' → okQ W' k' d := fun ⟨p, e, a⟩ h h2 => ⟨p, e, a.lv, a.sh, Nat.le_trans a.dep h2, Nat.le_trans a.wt h⟩
theorem okQs.nil (W k : Nat) : okQs W k [] := ⟨[], .nil, rfl, rfl, Nat.zero_le _, Nat.zero_le _⟩
theorem okQs.cons {W W' k : Nat} {d : D} {ds : List D} : okQ W k d → okQs W' k ds → okQs (W + 1 + W') k (d :: ds) := fun ⟨p, e, a⟩ ⟨ps, e2, b⟩ => by
  obtain ⟨a1, a2, a3, a4⟩ := a
  obtain ⟨b1, b2, b3, b4⟩ := b
  refine ⟨p :: ps, .cons e e2, ?_, ?_, ?_, ?_⟩
  · rw [PyData.leavesShortAll, a1, b1]; rfl
  · rw [PyData.showableAll, a2, b2]; rfl
  · rw [PyData.depthAll]; omega
  · rw [PyData.weightAll]; omega
theorem okQs.all {W k : Nat} : ∀ {ds : List D}, (∀ d ∈ ds, okQ W k d) → okQs (ds.length * (W + 1)) k ds
  | [], _ => okQs.nil _ _
  | d :: ds, h => by
    obtain ⟨ps, e, a⟩ := okQs.cons (h d List.mem_cons_self) (okQs.all fun x hx => h x (List.mem_cons_of_mem _ hx))
    have q : (ds.length + 1) * (W + 1) = W + 1 + ds.length * (W + 1) := by rw [Nat.add_mul, Nat.one_mul, Nat.add_comm]
    rw [List.length_cons, q]
    exact ⟨ps, e, a⟩
theorem okQs.list {W k : Nat} {ds : List D} : okQs W k ds → okQ W (k + 1) (.lst ds) := fun ⟨ps, e, a⟩ => ⟨.list ps, .lst e, by rw [PyData.leavesShort]; exact a.lv, by rw [PyData.showable]; exact a.sh, by rw [PyData.depth]; have := a.dep; omega, by rw [PyData.weight]; exact a.wt⟩
theorem okQs.tuple {W k : Nat} {ds : List D} : okQs W k ds → okQ W (k + 1) (.tup ds) := fun ⟨ps, e, a⟩ => ⟨.tuple ps, .tup e, by rw [PyData.leavesShort]; exact a.lv, by rw [PyData.showable]; exact a.sh, by rw [PyData.depth]; have := a.dep; omega, by rw [PyData.weight]; exact a.wt⟩
theorem okQ.emp (a : Addr) : okQ 0 1 (empD a) := ⟨.dict [], .emp a, by decide +kernel, by decide +kernel, by decide +kernel, by decide +kernel⟩
theorem okQ.bl (b : Bool) : okQ 0 0 (.bl b) := ⟨_, .bl b, rfl, rfl, by rw [PyData.depth]; exact Nat.le_refl _, by rw [PyData.weight]; exact Nat.le_refl _⟩
theorem okQ.non : okQ 0 0 .non := ⟨_, .non, rfl, rfl, by rw [PyData.depth]; exact Nat.le_refl _, by rw [PyData.weight]; exact Nat.le_refl _⟩
theorem okQ.int {i : Int} {b : Nat} (h : i.natAbs < 2 ^ b) (h0 : 0 < b := by decide) (hb : b ≤ 900 := by decide) : okQ b 0 (.int i) := by
  obtain ⟨h1, h2, h3, h4, h5, h6⟩ := PyBg.int h h0 hb
  exact ⟨_, .int i, PyData.leavesShort_of_canLay0 1000 _ h1 h2, h3, h5, h6⟩
theorem okQ.str {z : Str} {n : Nat} (h : ∀ c ∈ cd z, c < 0x110000) (hn : (cd z).length ≤ n) : okQ n 0 (.str z) := by
  obtain ⟨p, e, h1, h2, h3, h4, h5, h6⟩ := bgP.str h hn
  rw [D.py] at e
  cases e
  exact ⟨_, .str z, PyData.leavesShort_of_canLay0 1000 _ h1 h2, h3, h5, h6⟩
end V
namespace V
open PySem PySem.Spec PyProof.Rows L2 U StX
/-- the script -/
def isScr (K : PySem.W.Frag) (d : D) (ns : List Int) : Prop := (∃ a, d = .opq a (.lst (ns.map V.int))) ∨ (∃ a o, d = .opq a (.frz o (.lst (ns.map V.int)))) ∨ ∃ a, d = .ptr a ∧ ∀ H : Hp, SqL K H a (ns.map V.int)
theorem scr_get {K : PySem.W.Frag} {S : Addr → Prop} {H : Hp} {v : V} {d : D} {ns : List Int} (h : Dt S H v d) (e : isScr K d ns) : ∃ a, v = .ref a ∧ SqL K H a (ns.map V.int) := by
  rcases e with ⟨a, rfl⟩ | ⟨a, o, rfl⟩ | ⟨a, rfl, q⟩
  · cases h with
    | opq n ha => exact ⟨a, rfl, .inl (.inl ha)⟩
  · cases h with
    | opq n ha => exact ⟨a, rfl, .inl (.inr ⟨o, ha⟩)⟩
  · cases h
    exact ⟨a, rfl, q H⟩
theorem scr_of {K : PySem.W.Frag} {S : Addr → Prop} {H : Hp} {a : Addr} {ns : List Int} (h : SqL K H a (ns.map V.int)) (n : ¬ S a) : ∃ d, Dt S H (.ref a) d ∧ isScr K d ns := by
  rcases h with (h | ⟨o, h⟩) | h
  · exact ⟨_, .opq n h, .inl ⟨a, rfl⟩⟩
  · exact ⟨_, .opq n h, .inr (.inl ⟨a, o, rfl⟩)⟩
  · exact ⟨_, .ptr a, .inr (.inr ⟨a, rfl, fun H => .inr h⟩)⟩
def rLenUS (K : PySem.W.Frag) : List V → Hp → VK → Prop := rLenU K
def rLenS (K : PySem.W.Frag) : DC := fun ds M P => ∃ d ns, ds = [d] ∧ isScr K d ns ∧ P (.int (ns.length : Nat)) M
instance cb_lenS {K : PySem.W.Frag} : CbD (rLenUS K) (rLenS K) := ⟨fun S M H vs ds P Q w hv h k => by
  obtain ⟨d, ns, rfl, e, p⟩ := h
  match vs, hv with
  | [v], .cons h0 .nil =>
    obtain ⟨a, rfl, hs⟩ := scr_get h0 e
    refine ⟨_, .inl hs, ?_⟩
    rw [List.length_map]
    exact k _ S M _ H p .refl w (.int _)⟩
def spPotD (K : PySem.W.Frag) : DC := fun ds M P => ∃ (d : D) (ns : List Int) (i : Nat), ds = [d, .int i] ∧ isScr K d ns ∧ ns.length ≤ 63 ∧ i ≤ 63 ∧ ∀ p, P (potD p) M
/-- a new pot, told to be new -/
def spPotN (K : PySem.W.Frag) : Sp := fun vs H Q _ => ∃ (a : Addr) (ns : List Int) (i : Nat), vs = [.ref a, .int i] ∧ SqL K H a (ns.map V.int) ∧ ns.length ≤ 63 ∧ i ≤ 63 ∧ ∀ (p : Addr) (H' : Hp), Same H H' → H p = none → Pot H' p → Q (.ref p) H'
theorem fn_newPotN {P : Program} {w : World} {K : PySem.W.Frag} {mg : Str → Option Value} {base : Heap} {k : Nat} {f : Addr} {fd : FuncData} {ps : List Str} (F : FnOk P w K mg base L2.CX0 k f fd ps (spPot1 K)) (h2 : ps.length = 2) : FnOk P w K mg base L2.CX0 k f fd ps (spPotN K) := by
  refine fn_potOut F (fun vs H Q E h => ?_) (fun vs H Q E h => ?_)
  · obtain ⟨a, ns, i, rfl, _⟩ := h
    rw [h2]
    rfl
  · obtain ⟨a, ns, i, rfl, hS, hn, hi, q⟩ := h
    refine ⟨a, ns, i, rfl, hS, hn, hi, fun p x y z H' e hp hx => ⟨p, x, y, z, hx, q p _ (fun c o hc => ?_) hp upd_same⟩⟩
    rw [upd_ne (ne_of_none hc hp)]
    exact e c o hc
theorem pot_lift {K : PySem.W.Frag} : ∀ vs H Q E, lift (spPotD K) vs H Q E → spPotN K vs H Q E := by
  rintro vs H Q E ⟨S, M, ds, P, w, h, ⟨d, ns, i, rfl, e, hl, hi, q⟩, k⟩
  match vs, h with
  | [_, _], .cons h1 (.cons (.int _) .nil) =>
    obtain ⟨a, rfl, hs⟩ := scr_get h1 e
    exact ⟨a, ns, i, rfl, hs, hl, hi, fun p H' e hn hp => k _ S M _ H' (q p) (.same e) (w.same e) (.opq (w.ns hn) hp)⟩
/-- what the law keeps: tables with what their codes are called, the modules' dict -/
def M0 (Ts : List (Addr × Str)) : Mem := fun b => if b = sysModules then some .sys else (Ts.lookup b).map .tab
def spLawD (K : PySem.W.Frag) (Ts : List (Addr × Str)) : DC := fun ds M P => ∃ (d : D) (ns : List Int), ds = [d] ∧ isScr K d ns ∧ ns.length ≤ 63 ∧ M = M0 Ts ∧ P (.bl true) M
def spLawT (K : PySem.W.Frag) (cs : List (Addr × Addr)) : Sp := fun vs H Q _ => ∃ (a : Addr) (ns : List Int), vs = [.ref a] ∧ SqL K H a (ns.map V.int) ∧ ns.length ≤ 63 ∧ (∀ p ∈ cs, H p.2 = some (.tbl #[])) ∧ SysK H ∧ a ∉ cs.map (·.2) ∧ a ≠ sysModules ∧ ∀ H', Q (.bl true) H'
theorem look_memT {b : Addr} {q : Str} : ∀ {Ts : List (Addr × Str)}, Ts.lookup b = some q → (b, q) ∈ Ts
  | [], h => by cases h
  | (a, r) :: Ts, h => by
    rw [List.lookup_cons] at h
    cases c : b == a with
    | true =>
      rw [c] at h
      cases h
      rw [eq_of_beq c]
      exact List.mem_cons_self
    | false =>
      rw [c] at h
      exact List.mem_cons_of_mem _ (look_memT h)
theorem law_liftT {K : PySem.W.Frag} {cs : List (Addr × Addr)} {Ts : List (Addr × Str)} (hT : ∀ b ∈ Ts.map (·.1), b ∈ cs.map (·.2)) : ∀ vs H Q E, spLawT K cs vs H Q E → lift (spLawD K Ts) vs H Q E := by
  rintro vs H Q E ⟨a, ns, rfl, hs, hl, ht, hy, na, ns1, q⟩
  have tb : ∀ b ∈ Ts.map (·.1), H b = some (.tbl #[]) := fun b hb => by
    obtain ⟨p, hp, e⟩ := List.mem_map.mp (hT b hb)
    rw [← e]
    exact ht p hp
  obtain ⟨o, es, ep, ho, hd⟩ := hy
  have nS : ¬ (a = sysModules ∨ a ∈ Ts.map (·.1)) := fun z => z.elim ns1 fun z => na (hT a z)
  obtain ⟨d, h1, h2⟩ := scr_of (S := fun b => b = sysModules ∨ b ∈ Ts.map (·.1)) hs nS
  refine ⟨fun b => b = sysModules ∨ b ∈ Ts.map (·.1), M0 Ts, [d], fun d _ => d = .bl true, ⟨fun b hb => ?_, fun b mo e => ?_⟩, .cons h1 .nil, ⟨d, ns, rfl, h2, hl, rfl, rfl⟩, fun d S' M' v H' e t w h => ?_⟩
  · rcases hb with rfl | hb
    · rw [ho]; exact fun z => nomatch z
    · rw [tb b hb]; exact fun z => nomatch z
  · unfold M0 at e
    split at e
    · rename_i c
      cases e
      rw [c]
      exact ⟨.inl rfl, o, es, ep, ho, hd⟩
    · obtain ⟨q', hq, rfl⟩ := Option.map_eq_some_iff.mp e
      have hm : b ∈ Ts.map (·.1) := List.mem_map.mpr ⟨_, look_memT hq, rfl⟩
      exact ⟨.inr hm, #[], tb b hm, True.intro, fun pos cv hc => by
        have z : codeAmong pos [] = some cv := hc
        simp [codeAmong] at z⟩
  · subst e
    cases h
    exact q H'
end V
namespace V
open PySem PySem.Spec PyProof.Rows L2 U StX
theorem lawGT {P : Program} {w : World} {K : PySem.W.Frag} {mg mb : Str → Option Value} {k : Nat} {fa a : Addr} {cs : List (Addr × Addr)} {fd : FuncData} {x : Str} {s₁ : Shared} {vs : List Value} {ns : List Int} {o1 : Obj} {es1 : Array DictEntry} {ep1 : Nat}
    (KX : K.In s₁.heap) (hns : s₁.heap.Ns mainGlobals mg) (hb : s₁.heap.Ns builtinsNs mb) (hbb : ∀ x : Str, x ≠ "__name__" → mb x = bootBuiltins x) (hlim : s₁.heap.NoLimit) (hg : s₁.gens = #[])
    (hT : ∀ p ∈ cs, s₁.heap.get? p.2 = some { cls := .none, data := .fields #[] }) (nT : ∀ p ∈ cs, K.lookup p.2 = none) (C : ∀ p ∈ cs, PySem.W.CodeHd s₁.heap p.1 p.2)
    (h1 : s₁.heap.get? sysModules = some o1) (hd1 : o1.data = .dict es1 ep1) (n1 : K.lookup sysModules = none)
    (hbm : ∃ (bm : Addr) (ob : Obj), mg "__builtins__" = some (.ref bm) ∧ bm ≠ builtinsNs ∧ s₁.heap.get? bm = some ob ∧ ob.cls = .type "module" ∧ ob.dict = some builtinsNs ∧ ob.data = .plain)
    (ha : s₁.heap.get? a = some { cls := .type "list", data := .seq vs.toArray }) (hi : IntsAre vs ns) (hl : ns.length ≤ 63) (hr : Room k callerA)
    (F : ∀ base : Heap, K.In base → base.Ns mainGlobals mg → (∀ p ∈ cs, LamX.TabB base mg p.1 p.2) → FnG P w K mg base k fa fd [x] (spLawT K cs)) (hbind : ∀ (s : Shared) (u : Value), BindsTo s fd ⟨[u], []⟩ [(x, u)]) :
    codeAny (model P w) callerA (.call (.ref fa) ⟨[.ref a], []⟩) (fun r s' => r = .ok (.ret (.bool true)) ∧ OldK s₁.heap s'.heap ∧ s'.os = s₁.os ∧ AllBare s'.gens) s₁ := by
  have rv := vals_ints hi
  have lenV := hi.length
  have hl2 : ns.length ≤ sizeLine := Nat.le_trans hl (by decide)
  have isT : ∀ b : Addr, b ∈ cs.map (·.2) → s₁.heap.get? b = some { cls := .none, data := .fields #[] } := fun b hb => by
    obtain ⟨p, hp, e⟩ := List.mem_map.mp hb
    rw [← e]
    exact hT p hp
  have aT : a ∉ cs.map (·.2) := fun z => by
    have q := isT a z
    rw [ha] at q
    have z' : Data.seq vs.toArray _ = Data.fields #[] := congrArg Obj.data (Option.some.inj q)
    cases z'
  have sT : sysModules ∉ cs.map (·.2) := fun z => by
    have q := isT _ z
    rw [h1] at q
    cases Option.some.inj q
    cases hd1
  have sa : a ≠ sysModules := fun z => by
    rw [z, h1] at ha
    cases Option.some.inj ha
    cases hd1
  have memT : ∀ p ∈ cs, p.2 ∈ cs.map (·.2) := fun p hp => List.mem_map.mpr ⟨p, hp, rfl⟩
  -- from an abstract heap in which nothing but the script, the tables and the modules' dict may be tracked
  have core : ∀ H : Hp, (∀ p ∈ cs, H p.2 = some (.tbl #[])) → H sysModules = some (.frz o1 (.ext fun _ => True)) → (∀ b, H b = none ∨ b ∈ cs.map (·.2) ∨ ∃ o u, H b = some (.frz o u)) → SqL K H a (ns.map V.int) → HOk P w H s₁.heap → (∀ b, H b ≠ none → b = a ∨ b = sysModules ∨ b ∈ cs.map (·.2)) → (H a ≠ none → K.lookup a = none) →
      codeAny (model P w) callerA (.call (.ref fa) ⟨[.ref a], []⟩) (fun r s' => r = .ok (.ret (.bool true)) ∧ OldK s₁.heap s'.heap ∧ s'.os = s₁.os ∧ AllBare s'.gens) s₁ := by
    intro H hH h1H hO hS hok hA hK
    have base_of : ∀ {b : Addr} {o : Obj}, s₁.heap.get? b = some o → H b = none → (hidT s₁.heap H).get? b = some o := fun e n => hidT_get e n
    have noD : ∀ {b : Addr} {o : Obj}, s₁.heap.get? b = some o → b ≠ sysModules → (∀ vs n, o.data ≠ .seq vs n) → o.data ≠ .fields #[] → H b = none := fun {b o} e hs h1 h2 => by
      cases q : H b with
      | none => rfl
      | some u =>
        rcases hA b (by rw [q]; simp) with e' | e' | e'
        · rw [e', ha] at e
          cases e
          exact (h1 _ _ rfl).elim
        · exact (hs e').elim
        · rw [isT b e'] at e
          cases e
          exact (h2 rfl).elim
    have noA : ∀ {b : Addr} {o : Obj} {es : Array DictEntry} {ep : Nat}, s₁.heap.get? b = some o → b ≠ sysModules → o.data = .dict es ep → H b = none := fun {b o es ep} e hs d => by
      refine noD e hs (fun vs n z => ?_) fun z => ?_
      · rw [d] at z
        cases z
      · rw [d] at z
        cases z
    have nsK : ∀ {b : Addr} {m : Str → Option Value}, b ≠ sysModules → s₁.heap.Ns b m → (hidT s₁.heap H).Ns b m := fun {b m} hs ⟨o, es, ep, e, d, r⟩ => ⟨o, es, ep, base_of e (noA e hs d), d, r⟩
    have hKb : K.In (hidT s₁.heap H) := fun b o e => base_of (KX b o e) (by
      cases q : H b with
      | none => rfl
      | some u =>
        rcases hA b (by rw [q]; simp) with e' | e' | e'
        · rw [e'] at e q
          rw [hK (by rw [q]; simp)] at e
          cases e
        · rw [e', n1] at e
          cases e
        · obtain ⟨p, hp, ep⟩ := List.mem_map.mp e'
          rw [← ep, nT p hp] at e
          cases e)
    have hM : L2.Mod K mg (hidT s₁.heap H) := ⟨hKb, nsK (by decide) hns, ⟨mb, nsK (by decide) hb, hbb⟩, let ⟨mc, h1, h2⟩ := hlim; ⟨mc, nsK (by decide) h1, h2⟩⟩
    have TB : ∀ p ∈ cs, LamX.TabB (hidT s₁.heap H) mg p.1 p.2 := fun p hp => by
      have hTp := hT p hp
      refine ⟨?_, ?_, fun z => ?_⟩
      · obtain ⟨o, us, file, tf, flags, tg, inF, text, tt, e1, r1, r2, r3, r4, r5, r6, r7, r8, hne⟩ := C p hp
        refine ⟨o, us, file, tf, flags, tg, inF, text, tt, base_of e1 (noD e1 (fun z => ?_) (fun vs n z => ?_) fun z => ?_), r1, r2, r3, r4, r5, r6, r7, r8, hne⟩
        · rw [z, h1] at e1
          cases e1
          rw [r2] at hd1
          cases hd1
        · rw [r2] at z
          cases z
        · rw [r2] at z
          cases z
          simp at r3
      · obtain ⟨bm, ob, b1, b2, b3, b4, b5, b6⟩ := hbm
        have nG : bm ≠ mainGlobals := fun q => by
          obtain ⟨o, es, ep, e, hd, _⟩ := hns
          rw [q, e] at b3
          cases b3
          rw [hd] at b6
          cases b6
        have nP : bm ≠ p.2 := fun q => by
          rw [q, hTp] at b3
          cases b3
          cases b6
        refine ⟨bm, ob, b1, b2, nG, nP, base_of b3 (noD b3 (fun z => ?_) (fun vs n z => ?_) fun z => ?_), b4, b5, b6⟩
        · rw [z, h1] at b3
          cases b3
          rw [b6] at hd1
          cases hd1
        · rw [b6] at z
          cases z
        · rw [b6] at z
          cases z
      · obtain ⟨o, es, ep, e, hd, _⟩ := hns
        rw [z, hTp] at e
        cases e
        cases hd
    have e0 : Env0 P w K mg (hidT s₁.heap H) callerA [] s₁ H := ⟨rfl, hM, fun b o e => of_hidT e, Nat.le_of_eq (hidT_size _ _), trivial, fun b hb => absurd (show b ∈ ([] : List Addr) from hb) (by simp), hok, .of_eq hg⟩
    refine codeAny_mono ((F _ hKb (nsK (by decide) hns) TB).run callerA [] s₁ H ⟨[.ref a], []⟩ [.ref a] [.ref a] (fun v _ => v = .bl true) (fun _ _ _ => False) hr rfl e0 (hbind s₁ (.ref a)) (.cons rfl .nil) ⟨a, ns, rfl, hS, hl, hH, ⟨o1, es1, ep1, h1H, hd1⟩, aT, sa, fun _ => rfl⟩) fun r s' h => ?_
    cases r with
    | error e => exact False.elim h
    | ok fl =>
      cases fl with
      | next => exact False.elim h
      | brk => exact False.elim h
      | cont => exact False.elim h
      | ret u =>
        obtain ⟨v, H', os, bare, un, hok', r', q⟩ := h
        have q' : v = .bl true := q
        subst q'
        obtain rfl : u = Value.bool true := r'
        have key : ∀ b o, b ∉ cs.map (·.2) → s₁.heap.get? b = some o → s'.heap.get? b = some o := fun b o nb e => by
          cases q : H b with
          | none => exact un.keep b o e q (by intro z; exact absurd (show b ∈ ([] : List Addr) from z) (by simp)) (by simp)
          | some u =>
            rcases hO b with z | z | ⟨ob, xs, z⟩
            · rw [q] at z; cases z
            · exact absurd z nb
            · have z2 := un.frzs b ob _ z
              obtain ⟨e1, _⟩ := hok b _ z
              obtain ⟨e2, _⟩ := hok' b _ z2
              rw [e] at e1; cases e1
              exact e2
        have grown : ∀ p ∈ cs, ∃ more : Array Value, s'.heap.get? p.2 = some { cls := .none, data := .fields more } := fun p hp => by
          obtain ⟨more, z⟩ := un.tbls p.2 #[] (hH p hp)
          exact ⟨_, hok' p.2 _ z⟩
        refine ⟨rfl, ⟨fun b o e => ?_, fun b o e => ?_⟩, os, bare⟩
        · by_cases hb : b ∈ cs.map (·.2)
          · obtain ⟨p, hp, ep⟩ := List.mem_map.mp hb
            obtain ⟨more, hm⟩ := grown p hp
            rw [← ep] at e ⊢
            rw [hT p hp] at e
            cases e
            exact .inr (.inl ⟨((C p hp).tab (hT p hp)).isCodeTable, rfl, #[], more, rfl, by rw [Array.empty_append]; exact hm⟩)
          · exact .inl (key b o hb e)
        · by_cases hb : b ∈ cs.map (·.2)
          · obtain ⟨p, hp, ep⟩ := List.mem_map.mp hb
            obtain ⟨more, hm⟩ := grown p hp
            rw [← ep]
            exact ⟨_, hm⟩
          · exact ⟨o, key b o hb e⟩
  have okS : ∀ H : Hp, ObjOk P w H s₁.heap sysModules (.frz o1 (.ext fun _ => True)) := fun H => ⟨h1, trivial, ⟨_, h1⟩, fun _ _ _ _ => trivial⟩
  cases hk : K.lookup a with
  | some o =>
    have e := KX a o hk
    rw [ha] at e
    cases e
    refine core (fun b => if b ∈ cs.map (·.2) then some (.tbl #[]) else if b = sysModules then some (.frz o1 (.ext fun _ => True)) else none) (fun p hp => if_pos (memT p hp)) ((if_neg sT).trans (if_pos rfl)) (fun b => ?_) (.inr ⟨_, vs.toArray, _, hk, rfl, rfl, rfl, by rw [List.size_toArray, lenV]; exact hl2, by simpa using rv⟩) (fun b u z => ?_) (fun b z => ?_)
      fun z => absurd (show (if a ∈ cs.map (·.2) then some (HO.tbl #[]) else if a = sysModules then some (.frz o1 (.ext fun _ => True)) else none) = none from (if_neg aT).trans (if_neg sa)) z
    · by_cases hb : b ∈ cs.map (·.2)
      · exact .inr (.inl hb)
      · by_cases hs : b = sysModules
        · exact .inr (.inr ⟨_, _, (if_neg hb).trans (if_pos hs)⟩)
        · exact .inl ((if_neg hb).trans (if_neg hs))
    · by_cases hb : b ∈ cs.map (·.2)
      · have z' := (if_pos hb).symm.trans z
        cases z'
        exact isT b hb
      · have z' := (if_neg hb).symm.trans z
        by_cases hs : b = sysModules
        · have z2 := (if_pos hs).symm.trans z'
          cases z2
          rw [hs]
          exact okS _
        · have z2 := (if_neg hs).symm.trans z'
          cases z2
    · by_cases hb : b ∈ cs.map (·.2)
      · exact .inr (.inr hb)
      · by_cases hs : b = sysModules
        · exact .inr (.inl hs)
        · exact absurd ((if_neg hb).trans (if_neg hs)) z
  | none =>
    refine core (fun b => if b = a then some (.frz { cls := .type "list", data := .seq vs.toArray } (.lst (ns.map V.int))) else if b ∈ cs.map (·.2) then some (.tbl #[]) else if b = sysModules then some (.frz o1 (.ext fun _ => True)) else none)
      (fun p hp => (if_neg (show ¬ p.2 = a from fun z => aT (by rw [← z]; exact memT p hp))).trans (if_pos (memT p hp))) ((if_neg (Ne.symm sa)).trans ((if_neg sT).trans (if_pos rfl))) (fun b => ?_)
      (.inl (.inr ⟨{ cls := .type "list", data := .seq vs.toArray }, if_pos rfl⟩)) (fun b u z => ?_) (fun b z => ?_) fun _ => hk
    · by_cases hb : b = a
      · exact .inr (.inr ⟨_, _, if_pos hb⟩)
      · by_cases hb2 : b ∈ cs.map (·.2)
        · exact .inr (.inl hb2)
        · by_cases hs : b = sysModules
          · exact .inr (.inr ⟨_, _, (if_neg hb).trans ((if_neg hb2).trans (if_pos hs))⟩)
          · exact .inl ((if_neg hb).trans ((if_neg hb2).trans (if_neg hs)))
    · by_cases hb : b = a
      · have z' := (if_pos hb).symm.trans z
        cases z'
        rw [hb]
        exact ⟨ha, by rw [List.length_map]; exact hl2, vs, _, rv, ha⟩
      · have z1 := (if_neg hb).symm.trans z
        by_cases hb2 : b ∈ cs.map (·.2)
        · have z' := (if_pos hb2).symm.trans z1
          cases z'
          exact isT b hb2
        · have z' := (if_neg hb2).symm.trans z1
          by_cases hs : b = sysModules
          · have z2 := (if_pos hs).symm.trans z'
            cases z2
            rw [hs]
            exact okS _
          · have z2 := (if_neg hs).symm.trans z'
            cases z2
    · by_cases hb : b = a
      · exact .inl hb
      · by_cases hb2 : b ∈ cs.map (·.2)
        · exact .inr (.inr hb2)
        · by_cases hs : b = sysModules
          · exact .inr (.inl hs)
          · exact absurd ((if_neg hb).trans ((if_neg hb2).trans (if_neg hs))) z
theorem walkGT {l : PySem.W.OpenLaw} {k : Nat} {q : Program} {loose : List Str} {XP : (Str → Option Value) → Heap → Prop} {YP : World → Heap → Prop} {d : DefRec} {K : Params → PySem.W.Frag} {x : Str}
    (hn : l.most = some 63) (hdf : d.params.defaults = []) (hr : Room k callerA) (him : importsNone q = true) (hY : ∀ (w : World) (h : Heap), YP w h → (K w.params).In h)
    (F : ∀ (w : World) (mg : Str → Option Value) (fa : Addr) (h : Heap), YP w h → (K w.params).In h → h.Ns mainGlobals mg → mg d.name = some (.ref fa) →
      ∃ (fd : FuncData) (cs : List (Addr × Addr)), (K w.params).In h ∧ (∀ p ∈ cs, h.get? p.2 = some { cls := .none, data := .fields #[] }) ∧ (∀ p ∈ cs, (K w.params).lookup p.2 = none) ∧ (∀ p ∈ cs, PySem.W.CodeHd h p.1 p.2) ∧ (K w.params).lookup sysModules = none ∧ (∀ (t : Shared) (u : Value), BindsTo t fd ⟨[u], []⟩ [(x, u)]) ∧
        ∀ base : Heap, (K w.params).In base → base.Ns mainGlobals mg → (∀ p ∈ cs, LamX.TabB base mg p.1 p.2) → FnG l.prog w (K w.params) mg base k fa fd [x] (spLawT (K w.params) cs)) :
    PySem.W.WalkO q loose XP YP l.row.toRowW d [] (fun f vs => PySem.call f vs) := by
  refine Att.attach_call hn hdf ?_
  intro w s₀ s₁ mg mb fa o pm cd doc a vs ns G Y ho hd hcd hmg hobj hints hlen hg
  obtain ⟨fd, cs, hK, hT, nT, hC, n1, hb, hF⟩ := F w mg fa _ Y (hY w _ Y) G.T.g hmg
  obtain ⟨mm, ⟨o1, es1, ep1, e1, d1, _⟩, _⟩ := (G.T.seer him).mods
  exact lawGT hK G.T.g G.T.b G.T.builtins G.T.nolimit hg hT nT hC e1 d1 n1 G.T.bmain hobj hints hlen hr hF hb
end V
namespace V
open PySem PySem.Spec PyProof.Rows L2 U StX
theorem eq_selfLs {ds : List D} {M : Mem} {R : QD} (E : EqOk (.lst ds)) (q : R (.bl true) M) : rEq1 (.lst ds) (.lst ds) M R := by
  show EqOk (.lst ds) ∧ EqOk (.lst ds) ∧ R (.bl (D.eqb (.lst ds) (.lst ds))) M
  rw [eqb_refl E]
  exact ⟨E, E, q⟩
theorem cpow19 : CPow 10 19 := by unfold CPow; decide
def tEither (a b : TE) : TE := fun σ H Q => a σ H Q ∨ b σ H Q
def dEither (a b : DE) : DE := fun δ M P => a δ M P ∨ b δ M P
instance pu_either {ta tb : TE} {da db : DE} [A : PuE ta da] [B : PuE tb db] : PuE (tEither ta tb) (dEither da db) := ⟨fun S M σ δ H P Q w e h k => h.elim (fun h => .inl (A.run S M σ δ H P Q w e h k)) (fun h => .inr (B.run S M σ δ H P Q w e h k))⟩
abbrev dEitherX (a b : QX → DE) : QX → DE := fun q => dEither (a q) (b q)
theorem x_orL {a b : QX → DE} {q : QX} {δ : Dl} {M : Mem} {P : QD} (h : a q δ M P) : dEitherX a b q δ M P := .inl h
theorem x_orR {a b : QX → DE} {q : QX} {δ : Dl} {M : Mem} {P : QD} (h : b q δ M P) : dEitherX a b q δ M P := .inr h
instance pux_either {E : XK} {ta tb : TE} {da db : QX → DE} [A : PuXE E ta da] [B : PuXE E tb db] : PuXE E (tEither ta tb) (dEitherX da db) := ⟨fun S M σ δ H P q Q w e h k x => h.elim (fun h => .inl (A.run S M σ δ H P q Q w e h k x)) (fun h => .inr (B.run S M σ δ H P q Q w e h k x))⟩
end V
namespace V
open PySem PySem.Spec PyProof.Rows L2 U StX
abbrev dOpX (r : DR) (a : QX → DE) (b : DE) : QX → DE := fun q => dOp r (a q) b
section
variable {E : XK} {ta tb : TE} {da : QX → DE} {db : DE} {r : R2} {rd : DR}
instance pux_op [A : PuXE E ta da] [B : PuE tb db] [R : OpD r rd] : PuXE E (tOp r ta tb) (dOpX rd da db) := ⟨fun S M σ δ H P q Q w e h k x =>
  A.run S M σ δ H _ q _ w e h (fun d S1 M1 v H1 p1 t1 w1 h1 =>
    B.run S1 M1 σ δ H1 _ _ w1 (e.step w t1) p1 fun d2 S2 M2 v2 H2 p2 t2 w2 h2 =>
      R.run S2 M2 H2 _ _ _ _ P Q w2 (dt_step w1 t2 _ h1) h2 p2 (k.go (t1.trans t2))) x⟩
end
def dCallLX (i : Nat) (f : Addr) (sp : DCX) (q : QX) (t : DA) : DE := fun δ M P => δ[i]? = some (some (.ptr f)) ∧ t δ M fun ds M1 => sp ds M1 P q
instance pux_callL {i : Nat} {f : Addr} {sp : DCX} {E : XK} {t : TA} {dt : DA} [A : PuA t dt] : PuXE E (tCallL i f (liftX sp) [] E t) (fun q => dCallLX i f sp q dt) := ⟨fun S M σ δ H P q Q w e h k x => by
  obtain ⟨v, hv, hd⟩ := e.at_ i _ h.1
  cases hd
  exact ⟨hv, A.run S M σ δ H _ _ w e h.2 fun ds S1 M1 vs H1 p1 t1 w1 h1 => by
    rw [List.append_nil]
    exact ⟨S1, M1, ds, P, q, w1, h1, p1, k.go t1, x.go t1⟩⟩⟩
def tCallLN (i : Nat) (f : Addr) (n : Nat) (sp : Sp) (g : List V → List V → List V) (E : XK) (tk : TA) : TE := fun σ H Q => σ[i]? = some (some (.ref f)) ∧ tk σ H fun zs H1 => zs.length = n ∧ sp (g [] zs) H1 Q E
def dCallLN (i : Nat) (f : Addr) (n : Nat) (sp : DCX) (g : List D → List D → List D) (q : QX) (tk : DA) : DE := fun δ M P => δ[i]? = some (some (.ptr f)) ∧ tk δ M fun es M1 => es.length = n ∧ sp (g [] es) M1 P q
instance pux_callLN {i n : Nat} {f : Addr} {sp : DCX} {E : XK} {gV : List V → List V → List V} {gD : List D → List D → List D} {tk : TA} {dk : DA} [B : PuA tk dk] [G : RelG gV gD] : PuXE E (tCallLN i f n (liftX sp) gV E tk) (fun q => dCallLN i f n sp gD q dk) := ⟨fun S M σ δ H P q Q w e h k x => by
  obtain ⟨v, hv, hd⟩ := e.at_ i _ h.1
  cases hd
  exact ⟨hv, B.run S M σ δ H _ _ w e h.2 fun es S1 M1 zs H1 p1 t1 w1 h1 => ⟨by rw [h1.length]; exact p1.1, S1, M1, _, P, q, w1, G.run S1 H1 _ _ _ _ .nil h1, p1.2, k.go t1, x.go t1⟩⟩⟩
section
variable {δ : Dl} {M : Mem} {P : QD} {t : DA} {q : QX} {nx : QS} {rt : QD} {G : Mem → Prop} {g : DG} {b : DS} {x d : D} {xs : List D}
theorem x_callLX {i : Nat} {f : Addr} {sp : DCX} {v : D} (e : δ[i]? = some (some v)) (e2 : v = .ptr f) (h : t δ M fun ds M1 => sp ds M1 P q) : dCallLX i f sp q t δ M P := ⟨by rw [← e2]; exact e, h⟩
theorem x_callLN {i n : Nat} {f : Addr} {sp : DCX} {gD : List D → List D → List D} {v : D} (e : δ[i]? = some (some v)) (e2 : v = .ptr f) (h : t δ M fun es M1 => es.length = n ∧ sp (gD [] es) M1 P q) : dCallLN i f n sp gD q t δ M P := ⟨by rw [← e2]; exact e, h⟩
theorem x_opX {r : DR} {a : QX → DE} {c : DE} (h : a q δ M fun x M1 => c δ M1 fun y M2 => r x y M2 P) : dOpX r a c q δ M P := h
theorem x_loopC (h : g x δ M fun δ1 M1 => b (fun δ' M' => G M' ∧ dLoop G g b nx rt xs δ' M') rt nx (fun δ' M' => G M' ∧ dLoop G g b nx rt xs δ' M') δ1 M1) : dLoop G g b nx rt (x :: xs) δ M := h
theorem x_loopN (h : nx δ M) : dLoop G g b nx rt [] δ M := h
/-- an append, its two steps -/
theorem x_ap1 {l : Addr} {p : Addr → Prop} (h : M l = some (.lst xs)) (q : p l) : ∃ l', D.ptr l = D.ptr l' ∧ (∃ xs, M l' = some (.lst xs)) ∧ p l' := ⟨l, rfl, ⟨xs, h⟩, q⟩
theorem x_ap2 {l : Addr} {N : Nat} {p : List D → D → Prop} (h : M l = some (.lst xs)) (hl : xs.length < N) (q : p xs d) : ∃ xs y, [d] = [y] ∧ M l = some (.lst xs) ∧ xs.length < N ∧ p xs y := ⟨xs, d, rfl, h, hl, q⟩
end
theorem sizeLineN : sizeLine = 16777216 := by rw [sizeLine_eq]
theorem mset_comm {M : Mem} {a b : Addr} {o u : MO} (h : a ≠ b) : mset (mset M a o) b u = mset (mset M b u) a o := by
  funext c
  by_cases h1 : c = b
  · subst h1
    rw [mset_same, mset_ne (Ne.symm h), mset_same]
  · by_cases h2 : c = a
    · subst h2
      rw [mset_ne h1, mset_same, mset_same]
    · rw [mset_ne h1, mset_ne h2, mset_ne h2, mset_ne h1]
theorem mset_set2 {M : Mem} {a b : Addr} {o u o' : MO} (h : b ≠ a) : mset (mset (mset M a o) b u) a o' = mset (mset M a o') b u := by
  rw [mset_comm h, mset_set]
theorem mset_get2 {M : Mem} {a b : Addr} {o u : MO} (h : a ≠ b) : mset (mset M a o) b u a = some o := by rw [mset_ne h, mset_same]
end V
namespace V
open PySem PySem.Spec PyProof.Rows L2 U StX
/-- try: body except c: suite; what the body raises is of c -/
def tTry1 (K : PySem.W.Frag) (c : Value) (tb : XK → TS) (ts : TS) : TS := fun D σ H => tb (fun cls d H' => PySem.W.exmOne K cls c = some true ∧ ∀ σ' : L2.St, ts D σ' H') D σ H
def sTry1 (K : PySem.W.Frag) (c : Value) (db : QX → DS) (ds : DS) : DS := fun nx rt bk ct δ M => db (fun C _ M' => PySem.W.exmOne K (.ref C) c = some true ∧ ∀ n, ds nx rt bk ct (List.replicate n none) M') nx rt bk ct δ M
theorem en_none {S : Addr → Prop} {H : Hp} (σ : L2.St) : En S H σ (List.replicate σ.length none) := ⟨by rw [List.length_replicate], fun i d h => by
  rw [List.getElem?_replicate] at h
  split at h <;> cases h⟩
instance pu_try1 {K : PySem.W.Frag} {c : Value} {tb : XK → TS} {ts : TS} {db : QX → DS} {ds : DS} [A : ∀ E, PuXS E (tb E) db] [B : PuS ts ds] : PuS (tTry1 K c tb ts) (sTry1 K c db ds) := ⟨fun S M σ δ H nx rt bk ct D w e h l =>
  (A _).run S M σ δ H nx rt bk ct D _ w e h l fun C fs S' M' d H' q t w' _ => ⟨q.1, fun σ' => B.run S' M' σ' _ H' nx rt bk ct D w' (en_none σ') (q.2 σ'.length) (l.go t)⟩⟩
end V
namespace V
open PySem PySem.Spec PyProof.Rows L2 U StX
def rSplitU : V → List V → Hp → VK → Prop := fun x xs H Q => ∃ a b, x = .str a ∧ xs = [.str b] ∧ (b.length == 0) = false ∧ a.length + 2 ≤ sizeLine ∧ rNewStrs (Txt.split a b) H Q
def tSplit (a b : TE) : TE := tM1 rSplitU a b
theorem dtA_strD {S : Addr → Prop} {H : Hp} : ∀ ys : List Str, DtA S H (ys.map V.str) (ys.map D.str)
  | [] => .nil
  | y :: ys => .cons (.str y) (dtA_strD ys)
def rSplit1 : DR := fun x y M P => ∃ z s, x = .str z ∧ y = .str s ∧ (s.length == 0) = false ∧ z.length + 2 ≤ sizeLine ∧ P (.lst ((Txt.split z s).map D.str)) M
def dJoin1S (a b : DE) : DE := fun δ M P => a δ M fun x M1 => (∃ z, x = .str z) ∧ b δ M1 fun y M2 => rSplit1 x y M2 P
instance pu_split {ta tb : TE} {da db : DE} [A : PuE ta da] [B : PuE tb db] : PuE (tSplit ta tb) (dJoin1S da db) := ⟨fun S M σ δ H P Q w e h k => by
  refine A.run S M σ δ H _ _ w e h fun d S1 M1 v H1 p1 t1 w1 h1 => ?_
  obtain ⟨⟨z, rfl⟩, p1⟩ := p1
  cases h1
  refine ⟨⟨z, rfl⟩, B.run S1 M1 σ δ H1 _ _ w1 (e.step w t1) p1 fun d2 S2 M2 v2 H2 p2 t2 w2 h2 => ?_⟩
  obtain ⟨z', s, e1, rfl, h3, h4, q⟩ := p2
  cases e1
  cases h2
  exact ⟨z, s, rfl, rfl, h3, h4, fun p hp => k _ _ _ _ _ q ((t1.trans t2).trans (.new hp)) (w2.new hp) (.lst (w2.ns hp) upd_same ((dtA_strD _).sm (Same.new hp)))⟩⟩
theorem x_split {a b : DE} {δ : Dl} {M : Mem} {P : QD} (h : a δ M fun x M1 => (∃ z, x = .str z) ∧ b δ M1 fun y M2 => rSplit1 x y M2 P) : dJoin1S a b δ M P := h
end V
namespace V
open PySem PySem.Spec PyProof.Rows L2 U StX
def tLenSetX (K : PySem.W.Frag) (ta : TE) : TE := tLenSetS K ta
def dLenSetX (a : DE) : DE := fun δ M P => a δ M fun x M1 => ∃ ts : List Str, isTF x (ts.map D.str) ∧ ts.length ≤ 4000 ∧ P (.int ((metS ts).length : Nat)) M1
instance pu_lenSetX {K : PySem.W.Frag} {ta : TE} {da : DE} [A : PuE ta da] : PuE (tLenSetX K ta) (dLenSetX da) := ⟨fun S M σ δ H P Q w e h k =>
  A.run S M σ δ H _ _ w e h fun d S1 M1 v H1 p1 t1 w1 h1 => by
    obtain ⟨ts, h2, hn, p1⟩ := p1
    obtain ⟨a, vs, rfl, n, ha, hs⟩ := tf_get h1 h2
    have eu := hs.strs_eq
    subst eu
    exact ⟨_, ts, rfl, .inr (Or.inl ha), hn, k _ S1 M1 _ H1 p1 t1 w1 (.int _)⟩⟩
end V
namespace V
open PySem PySem.Spec PyProof.Rows L2 U
section
variable {X : Cx} {n : Nat} {f : Addr} {fd : FuncData} {ps : List Str} {C : Addr} {sp : Sp}
def rLenO (C : Addr) (sp : Sp) : List V → Hp → VK → Prop := fun xs H Q => ∃ (a : Addr) (dx : Addr) (fs : List (Str × V)), xs = [.ref a] ∧ H a = some (.ins C dx fs) ∧ sp [.ref a] H (fun v H' => ∃ m : Int, v = .int m ∧ 0 ≤ m ∧ m < 2 ^ 63 ∧ Q (.int m) H') L2.E0
def rLenO1 (C : Addr) (sp : DC) : DC := fun ds M P => ∃ p fs, ds = [.ptr p] ∧ M p = some (.ins C fs) ∧ sp [.ptr p] M fun d M' => ∃ m : Int, d = .int m ∧ 0 ≤ m ∧ m < 2 ^ 63 ∧ P (.int m) M'
instance cb_lenO {C : Addr} {sp : DC} : CbD (rLenO C (lift sp)) (rLenO1 C sp) := ⟨fun S M H vs ds P Q w hv h k => by
  obtain ⟨p, fs, rfl, hm, q⟩ := h
  match vs, hv with
  | [v], .cons h1 .nil =>
    obtain ⟨a, dx, fs', rfl, ha, _, _⟩ := in_get w h1 (.inr ⟨p, fs, rfl, hm, rfl, rfl⟩)
    refine ⟨a, dx, fs', rfl, ha, S, M, [.ptr p], _, w, .cons h1 .nil, q, fun d S' M' v' H' e st w' hd => ?_⟩
    obtain ⟨m, rfl, k0, k1, pp⟩ := e
    cases hd
    exact ⟨m, rfl, k0, k1, k _ S' M' _ H' pp st w' (.int m)⟩⟩
end
end V
namespace V
open PySem PySem.Spec PyProof.Rows L2 U StX
structure FnQ (P : Program) (w : World) (K : PySem.W.Frag) (mg : Str → Option Value) (base : Heap) (k : Nat) (f : Addr) (fd : FuncData) (ps : List Str) (sp : Sp) : Prop where
  len : ∀ vs H Q E, sp vs H Q E → vs.length = ps.length
  run : ∀ (A : Around) (outer : List Env) (s : Shared) (H : Hp) (args : Args) (us : List Value) (vs : List V) (Q : VK) (E : XK), L2H.RoomH k A → Env0 P w K mg base A outer s H → BindsTo s fd args (ps.zip us) → Vals vs us → sp vs H Q E →
    codeAny (model P w) A (.call (.ref f) args) (CR C8.CX0 outer P w H s Q E) s
section
variable {P : Program} {w : World} {K : PySem.W.Frag} {mg : Str → Option Value} {base : Heap} {x qual : Str} {st : Stmt} {f : Addr} {fd : FuncData} {N ps : List Str} {k : Nat} {sp : Sp} {sd : DC}
/-- a quiet def is one that may be called from where nothing is caught -/
theorem FnQ.ok (F : FnQ P w K mg base k f fd ps sp) : FnOk P w K mg base C8.CX0 k f fd ps sp := ⟨F.len, fun A outer s H args us vs Q E hr e0 hb r h => F.run A outer s H args us vs Q E (L2H.roomH_of hr) e0 hb r h⟩
end
abbrev xObj (oe : Obj) : HO := .frz oe (.ext fun _ => True)
/-- isinstance(e, c), e an exception -/
def rIsX (K : PySem.W.Frag) : List V → Hp → VK → Prop := fun xs H Q => ∃ (a D : Addr) (oe : Obj) (us : Array Value) (c : V) (cv : Value) (b : Bool), xs = [.ref a, c] ∧ H a = some (xObj oe) ∧ oe.cls = .ref D ∧ oe.data = .fields us ∧ (oe.dict = none ∨ ∃ dd gs, oe.dict = some dd ∧ H dd = some (.xd gs)) ∧
  ExcC K D ∧ (∀ u, RelV c u → u = cv) ∧ PySem.W.kitOne K (.ref D) cv = some b ∧ Q (.bl b) H
theorem call_isX {X : Cx} {K : PySem.W.Frag} (hK : X.K = K) : CallR X (.builtin "isinstance") (rIsX K) := by
  subst hK
  intro pins s σ H xs us Q I r h
  obtain ⟨a, D, oe, vs, c, cv, b, rfl, ha, hcl, hv, hdi, C, hcv, e, q⟩ := h
  match us, r with
  | [u0, u1], .cons rx (.cons rt .nil) =>
      cases rx
      have ec := hcv _ rt
      subst ec
      obtain ⟨hget, _⟩ : s.heap.get? a = some oe ∧ True := ⟨(I.hok a _ ha).1, trivial⟩
      have fin : ∀ {od : Option Obj}, PySem.W.InstAt s.heap a oe D od → PySem.W.KitX X.K (.ref a) (.ref D) (fun h => PySem.W.InstAt h a oe D od) → wpAny (model X.prog X.w) X.A (call (.builtin "isinstance") [.ref a, u1]) (EP X pins σ Q) X.xe s := fun J kx =>
        PySem.W.kia_one kx I.kIn J e (fun z => nomatch z) fun tk => ⟨.bl b, H, I.kept (t' := tk) fun _ _ z => z, rfl, q⟩
      rcases hdi with hn | ⟨dd, gs, hdd, hx⟩
      · have J : PySem.W.InstAt s.heap a oe D none := by
          obtain ⟨oc, od, oda, osl⟩ := oe
          dsimp only at hcl hv hn
          subst hcl hv hn
          exact ⟨hget, rfl, rfl, trivial⟩
        exact fin J (PySem.W.handS_kitx_exc C.hg C.hk C.hs C.hd C.ha C.hn C.ht C.hm)
      · have hx : ObjOk X.prog X.w H s.heap dd (.xd gs) := I.hok dd _ hx
        obtain ⟨mA, ⟨od, es, ep, ho, hr⟩, _⟩ := hx
        have J : PySem.W.InstAt s.heap a oe D (some od) := ⟨hget, hcl, by unfold PySem.W.notCls; rw [hv] <;> rfl, by rw [hdd]; exact ho⟩
        have hcl2 : (PySem.W.clsIn X.K D).isSome = true := by
          have z := C.hd
          unfold PySem.W.hasDictIn at z
          cases hc : PySem.W.clsIn X.K D with
          | none => rw [hc] at z; exact absurd z (by decide)
          | some cd => rfl
        exact fin J (PySem.W.kitx_exc hcl2 C.hg C.hk C.hs C.ha C.hn C.ht C.hm)
/-- e.f, e an exception -/
def tXfT (K : PySem.W.Frag) (f : Str) (te : TE) : TE := fun σ H Q => te σ H fun x H1 => ∃ (a C : Addr) (oe : Obj) (us : Array Value) (dd : Addr) (gs : List (Str × V)) (v : V), x = .ref a ∧ H1 a = some (xObj oe) ∧ oe.cls = .ref C ∧ oe.data = .fields us ∧ oe.dict = some dd ∧ H1 dd = some (.xd gs) ∧
  XfC K C ∧ PySem.W.findIn K (.ref C) f = some none ∧ gs.lookup f = some v ∧ Q v H1
theorem pe_xfT {X : Cx} {K : PySem.W.Frag} (hK : X.K = K) {e : Expr} {te : TE} {pos : Pos} {n : Str} (he : PE X e te) (hb : attributeBase e n X.env (eval e X.env) = eval e X.env := by rfl) : PE X (.Attribute e n pos) (tXfT K n te) := by
  subst hK
  refine ⟨fun pins s σ H Q I h => ?_⟩
  refine attr_of hb (thn (he.run pins s σ H _ I h) fun u s1 hh => ?_)
  obtain ⟨x, H1, I1, rx, a, C, oe, us, dd, gs, v, ex, ha, hcl, hv, hdd, hx, T, hno, l, q⟩ := hh
  subst ex
  obtain rfl : u = Value.ref a := rx
  have hget : s1.heap.get? a = some oe := (I1.hok a _ ha).1
  have hx : ObjOk X.prog X.w H1 s1.heap dd (.xd gs) := I1.hok dd _ hx
  obtain ⟨mA, hns, hr⟩ := hx
  obtain ⟨od, ho, hl⟩ := lookIn_ns hns
  obtain ⟨u, hu, ru⟩ := RelO.some_of (v := v) (o := mA n) (by rw [← l]; exact hr n)
  have J : PySem.W.InstAt s1.heap a oe C (some od) := ⟨hget, hcl, by unfold PySem.W.notCls; rw [hv] <;> rfl, by rw [hdd]; exact ho⟩
  exact HandSPX.exc_get I1.kIn J T.ga T.gg T.exC (PySem.W.findObj_own T.hdC hno rfl (by rw [hl, hu])) (handed_of ru) ⟨v, H1, I1.tok _, ru, q⟩
def rIsXD (K : PySem.W.Frag) : DC := fun ds M P => ∃ (a C : Addr) (fs : List (Str × D)) (c : D) (cv : Value) (b : Bool), ds = [.ptr a, c] ∧ M a = some (.xob C fs) ∧ ExcC K C ∧ ((∃ A, c = .ptr A ∧ cv = .ref A) ∨ ∃ n, c = .ty n ∧ cv = .type n) ∧ PySem.W.kitOne K (.ref C) cv = some b ∧ P (.bl b) M
instance cb_isX {K : PySem.W.Frag} : CbD (rIsX K) (rIsXD K) := ⟨fun S M H vs ds P Q w hv h k => by
  obtain ⟨a, C, fs, c, cv, b, rfl, ha, E, hc, hk, p⟩ := h
  match vs, hv with
  | [v, u], .cons h0 (.cons h1 .nil) =>
    cases h0
    obtain ⟨_, oe, us, g1, g2, g3, g4⟩ := w.mem a _ ha
    refine ⟨a, C, oe, us, u, cv, b, rfl, g1, g2, g3, g4.imp (fun z => z.1) (fun ⟨dd, gs, e1, e2, e3, _⟩ => ⟨dd, gs, e1, e3⟩), E, fun u' r => ?_, hk, k _ S M _ H p .refl w (.bl b)⟩
    rcases hc with ⟨A, rfl, rfl⟩ | ⟨n, rfl, rfl⟩
    · cases h1
      exact r
    · cases h1
      exact r⟩
def dXf (K : PySem.W.Frag) (f : Str) (t : DE) : DE := fun δ M P => t δ M fun x M1 => ∃ (a C : Addr) (fs : List (Str × D)) (y : D), x = .ptr a ∧ M1 a = some (.xob C fs) ∧ XfC K C ∧ PySem.W.findIn K (.ref C) f = some none ∧ fs.lookup f = some y ∧ P y M1
instance pu_xfT {K : PySem.W.Frag} {f : Str} {te : TE} {dt : DE} [A : PuE te dt] : PuE (tXfT K f te) (dXf K f dt) := ⟨fun S M σ δ H P Q w e h k =>
  A.run S M σ δ H _ _ w e h fun d S1 M1 v H1 p1 t1 w1 h1 => by
    obtain ⟨a, C, fs, y, rfl, ha, X, hn, hl, p⟩ := p1
    cases h1
    obtain ⟨_, oe, us, g1, g2, g3, g4⟩ := w1.mem a _ ha
    rcases g4 with ⟨_, rfl⟩ | ⟨dd, gs, e1, e2, e3, e4, e5⟩
    · cases hl
    · obtain ⟨v, hv, hd⟩ := lookup_dt e4 e5 hl
      exact ⟨a, C, oe, us, dd, gs, v, rfl, g1, g2, g3, e1, e3, X, hn, hv, k _ S1 M1 _ H1 p t1 w1 hd⟩⟩
theorem x_xf {K : PySem.W.Frag} {f : Str} {t : DE} {δ : Dl} {M : Mem} {P : QD} (h : t δ M fun x M1 => ∃ (a C : Addr) (fs : List (Str × D)) (y : D), x = .ptr a ∧ M1 a = some (.xob C fs) ∧ XfC K C ∧ PySem.W.findIn K (.ref C) f = some none ∧ fs.lookup f = some y ∧ P y M1) : dXf K f t δ M P := h
end V
namespace V
open PySem PySem.Spec PyProof.Rows L2 U StX
section
variable {X : Cx} {n x1 x2 x3 : Str} {c1 c2 c3 : Value} {i : Nat} {body suite : List Stmt} {b₀ : Stmt} {np1 np2 np3 tpos pos pos' : Pos} {cx : Nat} {tb : XK → TS} {ts : TS}
/-- what a clause with three classes wishes, its name in slot i -/
def wTry3as (K : PySem.W.Frag) (N i : Nat) (c1 c2 c3 : Value) (ts : TS) (D : Ends) : XK := fun cls d H => PySem.W.exmAny K cls [c1, c2, c3] = some true ∧ ∀ (σ : L2.St) (a : Addr) (oe : Obj) (us : Array Value), σ.length = N → H a = none → oe.cls = cls → oe.dict = d → oe.data = .fields us →
  ts { nx := fun σ' H' => D.nx (σ'.set i none) H', rt := D.rt, bk := fun σ' H' => D.bk (σ'.set i none) H', ct := fun σ' H' => D.ct (σ'.set i none) H' } (σ.set i (some (.ref a))) (upd H a (xObj oe))
def tTry3as (K : PySem.W.Frag) (N i : Nat) (c1 c2 c3 : Value) (tb : XK → TS) (ts : TS) : TS := fun D σ H => tb (wTry3as K N i c1 c2 c3 ts D) D σ H
def wTry3 (K : PySem.W.Frag) (N : Nat) (c1 c2 c3 : Value) (ts : TS) (D : Ends) : XK := fun cls d H => PySem.W.exmAny K cls [c1, c2, c3] = some true ∧ ∀ σ : L2.St, σ.length = N → ts D σ H
def tTry3 (K : PySem.W.Frag) (N : Nat) (c1 c2 c3 : Value) (tb : XK → TS) (ts : TS) : TS := fun D σ H => tb (wTry3 K N c1 c2 c3 ts D) D σ H
end
def sTry3 (K : PySem.W.Frag) (c1 c2 c3 : Value) (db : QX → DS) (ds : DS) : DS := fun nx rt bk ct δ M => db (fun C _ M' => PySem.W.exmAny K (.ref C) [c1, c2, c3] = some true ∧ ∀ n, ds nx rt bk ct (List.replicate n none) M') nx rt bk ct δ M
instance pu_try3 {K : PySem.W.Frag} {N : Nat} {c1 c2 c3 : Value} {tb : XK → TS} {ts : TS} {db : QX → DS} {ds : DS} [A : ∀ E, PuXS E (tb E) db] [B : PuS ts ds] : PuS (tTry3 K N c1 c2 c3 tb ts) (sTry3 K c1 c2 c3 db ds) := ⟨fun S M σ δ H nx rt bk ct D w e h l =>
  (A _).run S M σ δ H nx rt bk ct D _ w e h l fun C fs S' M' d H' q t w' _ => ⟨q.1, fun σ' hl => B.run S' M' σ' _ H' nx rt bk ct D w' (en_none σ') (q.2 σ'.length) (l.go t)⟩⟩
def sTry3as (K : PySem.W.Frag) (i : Nat) (c1 c2 c3 : Value) (db : QX → DS) (ds : DS) : DS := fun nx rt bk ct δ M => db (fun C fs M' => PySem.W.exmAny K (.ref C) [c1, c2, c3] = some true ∧ ∀ (n : Nat) (a : Addr), M' a = none →
  ds (fun δ' M'' => nx (δ'.set i none) M'') rt (fun δ' M'' => bk (δ'.set i none) M'') (fun δ' M'' => ct (δ'.set i none) M'') ((List.replicate n none).set i (some (.ptr a))) (mset M' a (.xob C fs))) nx rt bk ct δ M
theorem held_xob {S : Addr → Prop} {H : Hp} {a C : Addr} {fs : List (Str × D)} {oe : Obj} {us : Array Value} (na : H a = none) (e1 : oe.cls = .ref C) (e3 : oe.data = .fields us) (x : XF S H oe.dict fs) : Held (fun b => S b ∨ b = a) (upd H a (xObj oe)) a (.xob C fs) := by
  refine ⟨oe, us, upd_same, e1, e3, x.imp id fun ⟨dd, gs, h1, h2, h3, h4, h5⟩ => ?_⟩
  have nd : dd ≠ a := fun z => by rw [z, na] at h3; cases h3
  have f : ∀ b, ¬ S b → H b ≠ none → ¬ (S b ∨ b = a) := fun b n k z => z.elim n fun y => k (by rw [y]; exact na)
  exact ⟨dd, gs, h1, f dd h2 (by rw [h3]; exact fun z => nomatch z), by rw [upd_ne nd]; exact h3, h4, (DtA.set f _ h5).sm (Same.new na)⟩
instance pu_try3as {K : PySem.W.Frag} {N i : Nat} {c1 c2 c3 : Value} {tb : XK → TS} {ts : TS} {db : QX → DS} {ds : DS} [A : ∀ E, PuXS E (tb E) db] [B : PuS ts ds] : PuS (tTry3as K N i c1 c2 c3 tb ts) (sTry3as K i c1 c2 c3 db ds) := ⟨fun S M σ δ H nx rt bk ct D w e h l =>
  (A _).run S M σ δ H nx rt bk ct D _ w e h l fun C fs S' M' d H' q t w' xf => ⟨q.1, fun σ' a oe us hl na e1 e2 e3 => by
    subst e2
    have w2 := w'.mutable na (held_xob na e1 e3 xf)
    have t2 := t.trans (Step.mutable (S := S') (M := M') (mo := .xob C fs) (o := xObj oe) w' na)
    have l2 := l.go t2
    exact B.run _ _ _ _ _ _ _ _ _ _ w2 ((en_none σ').set (.ptr a)) (q.2 σ'.length a (w'.fresh na)) ⟨fun δ2 S2 M2 σ2 H2 p t w e => l2.nx _ S2 M2 _ H2 p t w e.unset, l2.rt, fun δ2 S2 M2 σ2 H2 p t w e => l2.bk _ S2 M2 _ H2 p t w e.unset, fun δ2 S2 M2 σ2 H2 p t w e => l2.ct _ S2 M2 _ H2 p t w e.unset⟩⟩⟩
end V
namespace V
open PySem PySem.Spec PyProof.Rows L2 U StX
section
variable {X : Cx}
def rCntF (K : PySem.W.Frag) : V → List V → Hp → VK → Prop := fun x xs H Q => ∃ (a : Addr) (ys : List V) (y : V), x = V.ref a ∧ xs = [y] ∧ SqL K H a ys ∧ flatV y = true ∧ ys.all flatV = true ∧ Q (.int (ys.countP (fun z => eqV z y) : Nat)) H
theorem cnt_U {x : V} : ∀ {xs : List V} {us : List Value}, Vals xs us → xs.all flatV = true → us.countP (eqU x) = xs.countP fun z => eqV z x
  | _, _, .nil, _ => rfl
  | y :: xs, u :: us, .cons r t, f => by
    rw [List.all_cons, Bool.and_eq_true] at f
    rw [List.countP_cons, List.countP_cons, cnt_U t f.2, eqU_of r f.1]
theorem mt_countF : MtR X "list.count" (rCntF X.K) := by
  intro pins s σ H x xs v us Q I rx rxs h
  obtain ⟨a, ys, y, rfl, rfl, hs, fy, fys, q⟩ := h
  cases rx
  cases rxs with
  | cons ry rt =>
    rename_i uy ut
    cases rt
    obtain ⟨its, rv, ⟨⟨cls, dd, data, sl⟩, n, ho, hc, hdn, hd⟩, hlen⟩ := I.list hs
    simp only at hc hd
    subst hc hd
    refine call_meets PySem.F.slot_list_count ⟨_, ho, rfl⟩ PySem.F.entry_list_count (PySem.F.args_list_count_2 _ _)
      (SeqAt.list_countAt a its.toArray n dd sl uy (eqU y)) ⟨ho, fun u' hu' => mem_eqAt ry fy rv fys u' (by simpa using hu'), ?_⟩
    have ec : its.toArray.toList.countP (eqU y) = ys.countP fun z => eqV z y := cnt_U rv fys
    refine ⟨.int (ys.countP (fun z => eqV z y) : Nat), H, I.tok _, ⟨s.toks, ?_⟩, q⟩
    show Value.int ((its.toArray.toList.countP (eqU y) : Nat) : Int) s.toks = Value.int ((ys.countP (fun z => eqV z y) : Nat) : Int) s.toks
    rw [ec]
end
theorem bools_V {S : Addr → Prop} {H : Hp} : ∀ {vs : List V} {bs : List Bool}, DtA S H vs (bs.map D.bl) → vs = bs.map V.bl
  | [], [], _ => rfl
  | [], _ :: _, h => by cases h
  | _ :: _, [], h => by cases h
  | v :: vs, b :: bs, h => by
    cases h with
    | cons h1 h2 =>
      cases h1
      rw [bools_V h2]
      rfl
theorem bools_flat (bs : List Bool) : (bs.map V.bl).all flatV = true := by
  induction bs with
  | nil => rfl
  | cons b bs ih => rw [List.map_cons, List.all_cons, ih]; rfl
theorem eqV_bl (a b : Bool) : eqV (.bl a) (.bl b) = (a == b) := by cases a <;> cases b <;> rfl
theorem bools_count (bs : List Bool) (c : Bool) : (bs.map V.bl).countP (fun z => eqV z (.bl c)) = bs.count c := by
  induction bs with
  | nil => rfl
  | cons b bs ih => rw [List.map_cons, List.countP_cons, List.count_cons, ih, eqV_bl]
theorem bools_first : ∀ {bs : List Bool} {c : Bool}, c ∈ bs → bs[bs.idxOf c]? = some c ∧ ∀ m b, m < bs.idxOf c → bs[m]? = some b → b ≠ c
  | [], c, h => nomatch h
  | a :: bs, c, h => by
    by_cases e : a = c
    · subst e
      rw [List.idxOf_cons_self]
      exact ⟨rfl, fun m b hm => by omega⟩
    · have hc : c ∈ bs := (List.mem_cons.mp h).resolve_left fun z => e z.symm
      obtain ⟨h1, h2⟩ := bools_first hc
      rw [List.idxOf_cons, show (a == c) = false from beq_eq_false_iff_ne.mpr e]
      refine ⟨h1, fun m b hm hb => ?_⟩
      cases m with
      | zero =>
        cases hb
        exact e
      | succ m => exact h2 m b (by simpa using hm) hb
def dCntB (a : DE) (b : DA) : DE := fun δ M P => a δ M fun x M1 => ∃ bs : List Bool, x = .lst (bs.map D.bl) ∧ b δ M1 fun ys M2 => ∃ c, ys = [.bl c] ∧ P (.int (bs.count c : Nat)) M2
instance pu_cntB {K : PySem.W.Frag} {ta : TE} {tb : TA} {da : DE} {db : DA} [A : PuE ta da] [B : PuA tb db] : PuE (tBM K "list" (rCntF K) ta tb) (dCntB da db) := ⟨fun S M σ δ H P Q w e h k =>
  A.run S M σ δ H _ _ w e h fun d S1 M1 v H1 p1 t1 w1 h1 => by
    obtain ⟨bs, rfl, p1⟩ := p1
    have h1' := h1
    cases h1 with
    | lst n ha hs =>
      rename_i a vs
      refine ⟨.inl ⟨rfl, _, SqL.of ha⟩, B.run S1 M1 σ δ H1 _ _ w1 (e.step w t1) p1 fun d2 S2 M2 v2 H2 p2 t2 w2 h2 => ?_⟩
      obtain ⟨c, rfl, p2⟩ := p2
      have h3 := dt_step w1 t2 _ h1'
      cases h3 with
      | lst n2 ha2 hs2 =>
        have ev := bools_V hs2
        subst ev
        match v2, h2 with
        | [_], .cons (.bl _) .nil => exact ⟨a, _, .bl c, rfl, rfl, SqL.of ha2, rfl, bools_flat bs, by rw [bools_count]; exact k _ S2 M2 _ H2 p2 (t1.trans t2) w2 (.int _)⟩⟩
theorem x_cntB {a : DE} {b : DA} {δ : Dl} {M : Mem} {P : QD} (h : a δ M fun x M1 => ∃ bs : List Bool, x = .lst (bs.map D.bl) ∧ b δ M1 fun ys M2 => ∃ c, ys = [.bl c] ∧ P (.int (bs.count c : Nat)) M2) : dCntB a b δ M P := h
def dIdxB (a : DE) (b : DA) : DE := fun δ M P => a δ M fun x M1 => ∃ bs : List Bool, x = .lst (bs.map D.bl) ∧ b δ M1 fun ys M2 => ∃ c, ys = [.bl c] ∧ c ∈ bs ∧ P (.int (bs.idxOf c : Nat)) M2
instance pu_idxB {K : PySem.W.Frag} {ta : TE} {tb : TA} {da : DE} {db : DA} [A : PuE ta da] [B : PuA tb db] : PuE (tBM K "list" (rIndex K) ta tb) (dIdxB da db) := ⟨fun S M σ δ H P Q w e h k =>
  A.run S M σ δ H _ _ w e h fun d S1 M1 v H1 p1 t1 w1 h1 => by
    obtain ⟨bs, rfl, p1⟩ := p1
    have h1' := h1
    cases h1 with
    | lst n ha hs =>
      rename_i a vs
      refine ⟨.inl ⟨rfl, _, SqL.of ha⟩, B.run S1 M1 σ δ H1 _ _ w1 (e.step w t1) p1 fun d2 S2 M2 v2 H2 p2 t2 w2 h2 => ?_⟩
      obtain ⟨c, rfl, hm, p2⟩ := p2
      have h3 := dt_step w1 t2 _ h1'
      cases h3 with
      | lst n2 ha2 hs2 =>
        have ev := bools_V hs2
        subst ev
        obtain ⟨g1, g2⟩ := bools_first hm
        match v2, h2 with
        | [_], .cons (.bl _) .nil => exact ⟨a, _, .bl c, bs.idxOf c, .bl c, rfl, rfl, SqL.of ha2, rfl, bools_flat bs, by rw [List.getElem?_map, g1]; rfl, by rw [eqV_bl]; exact beq_self_eq_true c, fun m z' hm2 hz => by
            rw [List.getElem?_map] at hz
            obtain ⟨b, hb, rfl⟩ := Option.map_eq_some_iff.mp hz
            rw [eqV_bl]
            exact beq_eq_false_iff_ne.mpr (g2 m b hm2 hb), k _ S2 M2 _ H2 p2 (t1.trans t2) w2 (.int _)⟩⟩
/-- what is told of an error -/
def triedX (K : PySem.W.Frag) (c1 c2 c3 : Value) (sp : Sp) (Q : VK) : XK := fun cls d H => PySem.W.exmAny K cls [c1, c2, c3] = some true ∧ ∀ (a : Addr) (oe : Obj) (us : Array Value), H a = none → oe.cls = cls → oe.dict = d → oe.data = .fields us → sp [.ref a] (upd H a (xObj oe)) Q C8.E0
def toldX (Q : VK) (v : V) (H : Hp) : Prop := ∀ p, H p = none → Q (.ref p) (upd H p (.tup [.str (Str.ofString "told"), v]))
def TTtried (K : PySem.W.Frag) (c1 c2 c3 : Value) (sp : Sp) : (XK → Hp → VK → Prop) → Hp → VK → Prop := fun tl H Q => ∀ K2 : VK, (∀ v H', toldX Q v H' → K2 v H') → tl (triedX K c1 c2 c3 sp Q) H K2
/-- over data -/
def triedQ (K : PySem.W.Frag) (c1 c2 c3 : Value) (sd : DC) (R : QD) : QX := fun C fs M => PySem.W.exmAny K (.ref C) [c1, c2, c3] = some true ∧ ∀ a, M a = none → sd [.ptr a] (mset M a (.xob C fs)) fun d M' => ∃ M0, Mle M0 M' ∧ R d M0
def dLamT (P : Addr) (q : Str) (K : PySem.W.Frag) (c1 c2 c3 : Value) (sd : DC) (dt : QX → DE) : DE := fun δ M R => M P = some (.tab q) ∧ dt (triedQ K c1 c2 c3 sd R) δ M fun d M' => R (.tup [.str (Str.ofString "told"), d]) M'
instance pu_lamT {P : Addr} {q : Str} {K : PySem.W.Frag} {c1 c2 c3 : Value} {sd : DC} {t : XK → TE} {dt : QX → DE} [A : ∀ E, PuXE E (t E) dt] : PuE (tLamP P q (TTtried K c1 c2 c3 (lift sd)) t) (dLamT P q K c1 c2 c3 sd dt) := ⟨fun S M σ δ H R Q w e h k => by
  obtain ⟨hm, h⟩ := h
  obtain ⟨ps, hP, ht, ha⟩ := (w.mem P _ hm).2
  refine ⟨⟨ps, hP, ht, fun pos cv hc => let ⟨c, a1, a2, _⟩ := ha pos cv hc; ⟨c, a1, a2⟩⟩, fun H1 l K2 hK => ?_⟩
  obtain ⟨w1, t1⟩ := lam_to w hm l
  refine (A _).run S M σ δ H1 _ (triedQ K c1 c2 c3 sd R) _ w1 (e.step w t1) h (fun d S2 M2 v H2 r t2 w2 hd => hK _ _ fun p np => ?_) (fun C fs S2 M2 d H2 r t2 w2 xf => ?_)
  · exact k _ _ _ _ _ r ((t1.trans t2).trans (.new np)) (w2.new np) (.tup (w2.ns np) upd_same ((DtA.cons (.str _) (.cons hd .nil)).sm (Same.new np)))
  · refine ⟨r.1, fun a oe us na e1 e2 e3 => ?_⟩
    subst e2
    have w3 := w2.mutable na (held_xob na e1 e3 xf)
    have t3 := (t1.trans t2).trans (Step.mutable (S := S2) (M := M2) (mo := .xob C fs) (o := xObj oe) w2 na)
    exact ⟨_, _, _, _, w3, .cons (.ptr a) .nil, r.2 a (w2.fresh na), fun d' S' M' v' H' ⟨M0, l0, r0⟩ t' w' hv => k d' S' M0 v' H' r0 ((t3.trans t').less l0) (w'.drop l0) hv⟩⟩
end V
namespace V
open PySem PySem.Spec PyProof.Rows L2 U StX
section
variable {X : Cx} {n : Nat} {f : Addr} {fd : FuncData} {ps : List Str} {C : Addr} {sp : Sp}
/-- repr(x) by an own __repr__ -/
def rReprO (C : Addr) (sp : Sp) : List V → Hp → VK → Prop := fun xs H Q => ∃ (a : Addr) (dx : Addr) (fs : List (Str × V)), xs = [.ref a] ∧ H a = some (.ins C dx fs) ∧ sp [.ref a] H (fun v H' => ∃ z : Str, v = .str z ∧ Q (.str z) H') L2.E0
end
def rReprO1 (C : Addr) (sp : DC) : DC := fun ds M P => ∃ d ns xs, ds = [d] ∧ isIn M d C ns xs ∧ sp [d] M fun e M' => ∃ z : Str, e = .str z ∧ P (.str z) M'
instance cb_reprO {C : Addr} {sp : DC} : CbD (rReprO C (lift sp)) (rReprO1 C sp) := ⟨fun S M H vs ds P Q w hv h k => by
  obtain ⟨d, ns, xs, rfl, hm, q⟩ := h
  match vs, hv with
  | [v], .cons h1 .nil =>
    obtain ⟨a, dx, fs', rfl, ha, _, _⟩ := in_get w h1 hm
    refine ⟨a, dx, fs', rfl, ha, S, M, [d], _, w, .cons h1 .nil, q, fun d S' M' v' H' e st w' hd => ?_⟩
    obtain ⟨z, rfl, pp⟩ := e
    cases hd
    exact ⟨z, rfl, k _ S' M' _ H' pp st w' (.str z)⟩⟩
section
variable {X : Cx} {pins : List (Addr × Obj)} {σ : L2.St} {H : Hp} {s : Shared} {n : Nat} {f : Addr} {fd : FuncData} {ps : List Str} {sp : Sp} {a C : Addr} {y : V} {v : Value} {Q : VK}
inductive Oth2 (C : Addr) (H : Hp) : V → Value → Prop
  | of {y : V} {t : Value} : Oth C H y t → Oth2 C H y t
  | int (i : Int) : Oth2 C H (.int i) (.type "int")
  | lst {b : Addr} {xs : List V} : H b = some (.lst xs) → Oth2 C H (.ref b) (.type "list")
def rEqOwn2 (C : Addr) (sp : Sp) : R2 := fun x y H Q => ∃ a dx fs tb, x = V.ref a ∧ H a = some (.ins C dx fs) ∧ Oth2 C H y tb ∧ sp [.ref a, y] H (fun v H' => ∃ t, v = V.bl t ∧ Q (.bl t) H') L2.E0
end
def othD (C : Addr) (y : D) : Prop := y = .non ∨ (∃ z, y = .str z) ∨ (∃ i, y = .int i) ∨ (∃ ys, y = .tup ys) ∨ (∃ ys, y = .lst ys) ∨ ∃ n2 x2, y = .ins C n2 x2
def rEqOwnD2 (C : Addr) (sp : DC) : DR := fun x y M P => ∃ n1 x1, x = .ins C n1 x1 ∧ othD C y ∧ sp [x, y] M fun d M' => ∃ t, d = .bl t ∧ P (.bl t) M'
instance op_eqOwnD2 {C : Addr} {sp : DC} : OpD (rEqOwn2 C (lift sp)) (rEqOwnD2 C sp) := ⟨fun S M H x y dx dy P Q w hx hy h k => by
  obtain ⟨n1, x1, rfl, hyk, h⟩ := h
  have gx := hx
  have gy := hy
  have fin : ∀ {a : Addr}, Dt S H (.ref a) (.ins C n1 x1) → lift sp [.ref a, y] H (fun v H' => ∃ t, v = V.bl t ∧ Q (.bl t) H') L2.E0 := fun {a} ha => ⟨S, M, _, _, w, .cons ha (.cons gy .nil), h, fun d S' M' v H' p t w' hv => by
    obtain ⟨b, rfl, p⟩ := p
    cases hv
    exact ⟨b, rfl, k _ S' M' _ H' p t w' (.bl _)⟩⟩
  cases hx with
  | ins _ ha _ _ =>
    rcases hyk with rfl | ⟨z, rfl⟩ | ⟨i, rfl⟩ | ⟨ys, rfl⟩ | ⟨ys, rfl⟩ | ⟨n2, x2, rfl⟩
    · cases hy
      exact ⟨_, _, _, _, rfl, ha, .of .non, fin gx⟩
    · cases hy
      exact ⟨_, _, _, _, rfl, ha, .of (.str z), fin gx⟩
    · cases hy
      exact ⟨_, _, _, _, rfl, ha, .int i, fin gx⟩
    · cases hy with
      | tup _ hb _ => exact ⟨_, _, _, _, rfl, ha, .of (.tup hb), fin gx⟩
    · cases hy with
      | lst _ hb _ => exact ⟨_, _, _, _, rfl, ha, .lst hb, fin gx⟩
    · cases hy with
      | ins _ hb _ _ => exact ⟨_, _, _, _, rfl, ha, .of (.ins hb), fin gx⟩⟩
instance (priority := low) pu_makeF10n {n : Nat} {E : XK} {C : Addr} {sp : DC} {tk : TA} {dk : DA} [B : PuA tk dk] : PuE (tMakeK C 0 n (liftF sp) (fun us ws => us ++ pk1_0 ws) E tNil tk) (dMakeK (rMakeF C sp) d10 n dk) := ⟨fun S M σ δ H P Q w e h k =>
  B.run S M σ δ H _ _ w e h fun es S2 M2 zs H2 p2 t2 w2 h2 => ⟨rfl, by rw [h2.length]; exact p2.1, fun x dx nx nd ne => makeF_go w2 (pk1_0_dt h2) p2.2 (k.go t2) nx nd ne⟩⟩
end V
namespace V
/-- own classes, then the rest tl -/
def refsB (tl : List PySem.Value) : List PySem.Value → Bool
  | .ref _ :: r => refsB tl r
  | l => l == tl
end V
namespace V.XA
open PySem PySem.Spec PySem.W PySem.Calls PyProof.Rows PySem.HandSPX Builtin Builtin.ObjectAttr
section
variable {tl : List Value}
theorem refsB_cases (l : List Value) (e : refsB tl l = true) : (∃ c r, l = .ref c :: r ∧ refsB tl r = true) ∨ l = tl := by
  cases l with
  | nil => exact .inr (beq_iff_eq.mp e)
  | cons a r => cases a <;> first | exact .inl ⟨_, _, rfl, e⟩ | exact .inr (beq_iff_eq.mp e)
theorem refsB_ind {p : List Value → Prop} (h0 : p tl) (h1 : ∀ c r, p r → p (.ref c :: r)) : ∀ l : List Value, refsB tl l = true → p l
  | [], e => by
    rcases refsB_cases [] e with ⟨c, r, q, _⟩ | q
    · cases q
    · rw [q]; exact h0
  | a :: r, e => by
    rcases refsB_cases (a :: r) e with ⟨c, r', q, h⟩ | q
    · obtain ⟨rfl, rfl⟩ := List.cons.inj q
      exact h1 c r (refsB_ind h0 h1 r h)
    · rw [q]; exact h0
theorem refsB_pass (self : Value) (hp : refuseLoop self "__setattr__" tl = pure ()) : ∀ l : List Value, refsB tl l = true → refuseLoop self "__setattr__" l = pure () :=
  refsB_ind hp fun c r h => by rw [refuseLoop_ref]; exact h
theorem refsB_has (X : String) : ∀ l : List Value, refsB tl l = true → l.contains (.type X) = tl.contains (.type X) :=
  refsB_ind rfl fun c r h => by rw [List.contains_cons, h]; rfl
end
section
variable {tl : List Value} {prog : Program} {w : World} {A : Around} {R : Result → Shared → Prop} {hp : Heap} {g : Array GenState} {d : Drawn} {t : Nat} {os : OsState}
theorem osa_first {K : W.Frag} {name : Str} {tk : Tok} {v : Value} {x C : Addr} {fv : Array Value} {cd : ClassData} (hps : ∀ self, refuseLoop self "__setattr__" tl = pure ()) (hto : tl.contains (.type "object") = true)
    (X : K.In hp) (hx : hp.get? x = some { cls := .ref C, data := .fields fv }) (hcd : W.clsIn K C = some cd) (hm : refsB tl cd.mro = true) (hh : cd.hasDict = true) (ha : W.findIn K (.ref C) name = some none)
    (hq : ∀ h' tk' dx, (∀ b o, b ≠ x → hp.get? b = some o → h'.get? b = some o) → hp.objs.size ≤ dx → dx ≠ x → h'.get? x = some { cls := .ref C, dict := some dx, data := .fields fv } →
      h'.Ns1 dx (fun y => if y = name then some v else none) → R (.ok (.ret .none)) ⟨h', g, d, tk', os⟩) :
    codeAny (model prog w) A (.call (.builtin "object.__setattr__") ⟨[.ref x, .str name tk, v], []⟩) R ⟨hp, g, d, t, os⟩ := by
  have I : W.InstAt hp x { cls := .ref C, data := .fields fv } C none := ⟨hx, rfl, rfl, trivial⟩
  have SF := F.store_object
  have hob : cd.mro.contains (.type "object") = true := (refsB_has "object" _ hm).trans hto
  have ne : cd.mro.isEmpty = false := by
    cases e : cd.mro with
    | nil => rw [e] at hob; cases hob
    | cons _ _ => rfl
  have hxs : x ≠ hp.objs.size := Nat.ne_of_lt (Heap.lt_size hx)
  have sub : W.Looks (model prog w) hp (isInstance (.ref x) (.type "object")) true := I.type.andThen (W.looks_mroIn X (by unfold W.mroIn; rw [hcd, Option.bind_some, if_neg (by rw [ne]; decide), hob]))
  refine codeAny_call_builtin SF.slot.plain SF.entry (@W.check_slot (model prog w) _ _ ⟨hp, g, d, t, os⟩ "object.__setattr__" "object" "__setattr__" (.ref x) [.str name tk, v] [] _ SF.kind SF.split sub (SF.args (.ref x) (.str name tk) v) ?_)
  have hmr : W.Looks (model prog w) hp (mroOf (.ref C)) cd.mro := (W.looks_clsIn X hcd).andThen .now
  have hcls : W.Looks (model prog w) hp (classData C) cd := W.looks_clsIn X hcd
  rw [W.osa_eq, refuse_eq]
  refine wpAny_bind (wpAny_bind (I.type.at (wpAny_bind (hmr.at ?_))))
  rw [refsB_pass _ (hps _) _ hm]
  refine wpAny_pure (wpAny_bind (I.type.at (wpAny_bind ((W.looks_findIn X ha).at (wpAny_bind ((W.Looks.now : W.Looks (model prog w) hp (storeTaker? none) none).at ?_))))))
  show wpAny _ _ (storeInOwnDict (.ref x) (.ref C) (.str name tk) name v false) _ _ _
  obtain ⟨nm, bs, mro, ns, qn, hd, sn, sb, ab, col, del⟩ := cd
  dsimp only at hh
  subst hh
  unfold storeInOwnDict ownDictForStores
  repeat (first | with_reducible refine store_in_new ?_ ?_ | with_reducible refine wpAny_loadPart_at hx ?_ | with_reducible refine hcls.at ?_ | wp_step)
  · exact ⟨_, #[], _, (Heap.get?_update_ne _ _ _ _ hxs.symm).trans (Heap.get?_push_at rfl rfl), rfl, fun e he => absurd he (by simp), fun _ => rfl⟩
  · intro h' tk' hn' hs
    have hx1 : (hp.push { cls := .type "dict", data := .dict #[] }).get? x = some { cls := .ref C, data := .fields fv } := Heap.get?_push_of_some _ hx
    exact hq h' tk' hp.objs.size (fun b o hb ho => (hs.2 b (Nat.ne_of_lt (Heap.lt_size ho))).trans ((Heap.get?_update_ne _ _ _ _ hb).trans (Heap.get?_push_of_some _ ho))) (Nat.le_refl _) hxs.symm ((hs.2 x hxs).trans (Heap.get?_update_self _ hx1 rfl)) hn'
end
end V.XA
namespace V
open PySem PySem.Spec PyProof.Rows L2 U StX
/-- what the written part says of an own exception class with a dict, over the base B -/
structure OexG (K : PySem.W.Frag) (C : Addr) (B newId initId : String) (tl : List Value) : Prop where
  base : ExcBaseFacts B newId initId tl
  pass : ∀ self, refuseLoop self "__setattr__" tl = pure ()
  obj : tl.contains (.type "object") = true
  cls : ∃ nm q N bs bm sn sub ab col dd k0 k1 k2 k3 k5, K.lookup C = some (excClassObj nm q C N bs bm true sn sub ab col dd k0 k1 k2 k3 k5 newId) ∧ refsB tl bm = true
  sa : PySem.W.findIn K (.ref C) "__setattr__" = some (some (.builtin "object.__setattr__"))
  exC : PySem.W.subIn K (.ref C) (.type "BaseException") = some true
  tyC : PySem.W.typeIn K (.ref C) = some (.type "type")
  kC : PySem.W.keepIn K (.ref C) = true
def tlLookup : List Value := [.type "LookupError", .type "Exception", .type "BaseException", .type "object"]
def tlArith : List Value := [.type "ArithmeticError", .type "Exception", .type "BaseException", .type "object"]
theorem pass_lookup : ∀ self, refuseLoop self "__setattr__" tlLookup = pure () := fun self => by unfold tlLookup; kernel_rfl
theorem pass_arith : ∀ self, refuseLoop self "__setattr__" tlArith = pure () := fun self => by unfold tlArith; kernel_rfl
section
variable {X : Cx} {pins : List (Addr × Obj)} {σ : L2.St} {H : Hp} {s : Shared} {a C : Addr} {f : Str} {y : V} {u : Value} {E : Value → Shared → Prop} {A : Around} {B newId initId : String} {tl : List Value}
theorem ostG_new {Q : Unit → Shared → Prop} (T : OexG X.K C B newId initId tl) (I : Inv X pins σ H s) (e : H a = some (exo a C none)) (hno : PySem.W.findIn X.K (.ref C) f = some none) (ry : RelV y u)
    (h : ∀ dx s', H dx = none → dx ≠ a → Inv X pins σ (upd (upd H dx (exd dx [(f, y)])) a (exo a C (some dx))) s' → Q () s') : wpAny (model X.prog X.w) A (setAttr (.ref a) f u) Q E s := by
  obtain ⟨nm, q, N, bs, bm, sn, sub, ab, col, dd, k0, k1, k2, k3, k5, hC, hbm⟩ := T.cls
  have hcl : PySem.W.clsIn X.K C = some { name := nm, bases := bs, mro := .ref C :: bm, ns := N, qualname := q, hasDict := true, slotNames := sn, subclasses := sub, abstract := ab, collection := col, hasDel := false } := by unfold PySem.W.clsIn; rw [hC] <;> rfl
  obtain ⟨t1, ho⟩ := exo_at I.hok e
  obtain ⟨hp, g, d, t, os⟩ := s
  refine PySem.W.set_plain I.kIn (ox := { cls := .ref C, dict := none, data := .fields #[.ref t1, .none, .none, .none, .bool false, .none] }) (od := none) ⟨ho, rfl, rfl, trivial⟩ T.sa ?_
  refine XA.osa_first T.pass T.obj I.kIn ho hcl (show refsB tl (.ref C :: bm) = true from hbm) rfl hno (fun h' tk' dx k dn dne hx hn => ?_)
  have hnd : H dx = none := I.hok.fresh dn
  have nd : ∀ {b : Addr} {o : Obj}, hp.get? b = some o → b ≠ dx := fun {b o} q => Nat.ne_of_lt (Nat.lt_of_lt_of_le (Heap.lt_size q) dn)
  have na : ∀ {b : Addr}, H b = none → b ≠ a := fun {b} n z => by
    rw [z, e] at n
    cases n
  have Un1 : Un X.fs [] H (upd (upd H dx (exd dx [(f, y)])) a (exo a C (some dx))) hp h' := {
    keep := fun b o q n _ _ => k b o (na n) q
    slot := fun b o q n _ _ => ⟨o.slots, k b o (na n) q⟩
    free := fun b o q n _ => by rw [upd_ne (na n), upd_ne (nd q)]; exact n
    there := fun b o q _ => by
      by_cases hb : b = a
      · exact ⟨_, by rw [hb]; exact hx⟩
      · exact ⟨o, k b o hb q⟩
    tups := fun b xs q => by rw [upd_ne (at_ne e q exo_tup), upd_ne (ne_of_none q hnd)]; exact q
    frzs := fun b o v q => by rw [upd_ne (at_ne e q exo_frz), upd_ne (ne_of_none q hnd)]; exact q
    tbls := fun b ps q => ⟨#[], by rw [upd_ne (at_ne e q exo_tbl), upd_ne (ne_of_none q hnd), q]; simp⟩ }
  refine h dx _ hnd dne (I.un (t' := tk') Un1 fun b o q => ?_)
  by_cases hb : b = a
  · subst hb
    rw [upd_same] at q
    cases q
    exact exo_ok hx
  · rw [upd_ne hb] at q
    by_cases hd : b = dx
    · subst hd
      rw [upd_same] at q
      cases q
      exact exd_ok hn (relO_put (fs := []) ry fun _ => trivial)
    · rw [upd_ne hd] at q
      refine (I.hok b o q).stay (fun c v hc z => k c v ?_ z) (fun c hc => ?_) fun c xs hc => ?_
      · rcases hc with rfl | hc
        · exact hb
        · exact at_ne e hc exo_own
      · rw [upd_ne (at_ne e hc exo_own), upd_ne (ne_of_none hc hnd)]; exact hc
      · rw [upd_ne (at_ne e hc exo_tup), upd_ne (ne_of_none hc hnd)]; exact hc
/-- self.f = e in the __init__ of such a class -/
def tOstG (K : PySem.W.Frag) (f : Str) (to te : TE) : TS := fun D σ H => te σ H fun y H1 => to σ H1 fun x H2 => ∃ (a C : Addr) (B newId initId : String) (tl : List Value), x = .ref a ∧ OexG K C B newId initId tl ∧ PySem.W.findIn K (.ref C) f = some none ∧
  H2 a = some (exo a C none) ∧ ∀ dx, H2 dx = none → dx ≠ a → D.nx σ (upd (upd H2 dx (exd dx [(f, y)])) a (exo a C (some dx)))
theorem ps_ostG {o e : Expr} {to te : TE} {p p' pos : Pos} (ho : PE X o to) (he : PE X e te) (hs : swapsWith e (some (.Attribute o f p')) pos.line X.env = pure false := by rfl) : PS X (.Assign [.Attribute o f p'] e pos) (tOstG X.K f to te) := by
  refine ⟨fun pins s σ H D I h => ?_⟩
  refine plainObj_wpAny_Assign_Attribute (thn (he.run pins s σ H _ I h) fun v s1 ⟨y, H1, I1, r1, q1⟩ => thn (ho.run pins s1 σ H1 _ I1 q1) fun u s2 ⟨x, H2, I2, r2, a, C, B, ni, ii, tl, ex, T, hno, ea, q⟩ => ?_) hs
  subst ex
  obtain rfl : u = Value.ref a := r2
  exact ostG_new T I2 ea hno r1 fun dx s' n ne J => ⟨σ, _, J, q dx n ne⟩
end
section
variable {X : Cx} {x f : Str} {C fI : Addr} {k : Nat} {fd : FuncData} {ps : List Str} {sp : Sp} {ds : List Value} {dvs : List V} {p pos pos' : Pos} {e : Expr} {es : List Expr} {ta : TA} {te : TE} {B newId initId : String} {tl : List Value} {E : XK}
theorem pmk_oexG {CX : CXT} (T : OexG X.K C B newId initId tl) (iC : PySem.W.findIn X.K (.ref C) "__init__" = some (some (.ref fI))) (tI : PySem.W.typeIn X.K (.ref fI) = some (.type "function"))
    (F1 : FnOk X.prog X.w X.K X.mg X.base CX k fI fd ps sp) (hr : Room (k + 1) X.A) (hb : Binds X.K fd ps ds) (hd : Vals dvs ds) (hx : Passes CX X (fun _ _ _ => False)) (hg : Gl X x) (hm : X.mg x = some (.ref C)) (ha : PA X (e :: es) ta)
    (hdb : (x == ("__debug__" : Str)) = false := by decide) (he : starEach (e :: es) X.env = (false, eval e X.env) :: starEach es X.env := by rfl) (hpl : (backTo pos (starEach es X.env)).any (·.1) = false := by rfl) :
    PMk X (.Call (.Name x p) (e :: es) [] pos) (tMkO C sp dvs ta) := by
  intro pins s σ H Q I h
  obtain ⟨nm, q, N, bs, bm, sn, sub, ab, col, dd, k0, k1, k2, k3, k5, hC, hbm⟩ := T.cls
  refine wpAny_Call_Name_kw (ld_glob I hg hm ?_ hdb)
  refine PySem.W.callWith_K (h₀ := X.base) I.ok.mod.kin T.kC (thn (ha.run pos pins s σ H _ I h) fun us s1 ⟨vs, H1, I1, r1, hz, q1⟩ => ⟨I1.kIn, ?_⟩) he hpl
  show wpAny _ _ (call (.ref C) us) _ _ _
  obtain ⟨hp, g, dr, tk, os⟩ := s1
  have hsz : hp.objs.size ≤ hp.objs.size + 1 := Nat.le_succ _
  have hq := q1 (hp.objs.size + 1) (I1.hok.fresh hsz)
  have kk : ∀ b o, hp.get? b = some o → ((hp.push (PySem.W.kdv_tup us)).push (PySem.HandSPX.excO C hp.objs.size)).get? b = some o := fun b o e => Heap.get?_push_of_some _ (Heap.get?_push_of_some _ e)
  have hget : ((hp.push (PySem.W.kdv_tup us)).push (PySem.HandSPX.excO C hp.objs.size)).get? (hp.objs.size + 1) = some (PySem.HandSPX.excO C hp.objs.size) := by heap_get
  have I2 := I1.laid (t' := tk) (a := hp.objs.size + 1) (o := exo (hp.objs.size + 1) C none) (h' := (hp.push (PySem.W.kdv_tup us)).push (PySem.HandSPX.excO C hp.objs.size)) kk hsz (exo_ok hget)
  have r2 : Vals (V.ref (hp.objs.size + 1) :: (vs ++ dvs)) (Value.ref (hp.objs.size + 1) :: (us ++ ds)) := .cons rfl (r1.append hd)
  have hl : (Value.ref (hp.objs.size + 1) :: us ++ ds).length = ps.length := by
    have e := r2.length
    rw [F1.len _ _ _ _ hq] at e
    exact e.symm
  have hus : us.length ≤ sizeLine := by
    rw [← Paired.length r1, sizeLine_eq]
    omega
  refine wpAny_call (PySem.HandSPX.call_own T.base (fun Y => XA.refsB_has Y bm hbm) (I1.kIn _ _ hC) (PySem.W.looks_findIn I1.kIn iC) (fun self => PySem.W.bind_fn I1.kIn self tI) hus
    (codeAny_mono (F1.run _ X.stack _ _ ⟨Value.ref (hp.objs.size + 1) :: us, []⟩ (Value.ref (hp.objs.size + 1) :: (us ++ ds)) _ _ (fun _ _ _ => False) (hr.make C us []) (I2.env0.make C us []) (hb _ (Value.ref (hp.objs.size + 1) :: us) I2.kIn hl) r2 hq) fun r s' hq' => ?_))
  cases r with
  | error er => exact hx pins σ _ _ er s' I2 hq'
  | ok fl =>
    cases fl with
    | ret u =>
      obtain ⟨v, H2, os2, bare2, un2, hok2, rv, ev, d, fs, ea, ed, hd1, q2⟩ := hq'
      subst ev
      obtain ⟨h2, g2, d2, t2, os'⟩ := s'
      exact ⟨rv, mk_end (raises_own T.exC T.tyC) I1 hsz kk un2 hok2 os2 bare2 ea ed hd1 q2⟩
    | next => exact False.elim hq'
    | brk => exact False.elim hq'
    | cont => exact False.elim hq'
/-- X(), X an own exception class without own __init__ -/
theorem pmk_own0 {bmB : List Value} {BB nI iI : String} (F : ExcBaseFacts BB nI iI bmB) (q : PySem.W.excIn X.K C bmB nI = true) (gC : X.mg x = some (.ref C)) (kC : PySem.W.keepIn X.K (.ref C) = true) (r : Raises X (.ref C)) (hg : Gl X x)
    (hdb : (x == ("__debug__" : Str)) = false := by decide) : PMk X (.Call (.Name x p) [] [] pos) (fun _ H Q => Q (.ref C) none H) := by
  intro pins s σ H Q I h
  refine wpAny_Call_Name_kw (ld_glob I hg gC ?_ hdb)
  refine PySem.W.callWith_K0 (first := []) I.kIn kC ?_
  show wpAny _ _ (call (.ref C) []) _ _ _
  obtain ⟨bm, N, nm, qn, bs, hdct, sn, sub, ab, col, dd, k0, k1, k2, k3, k5, mN, hC, hN, hni, T⟩ := exc_obj I.kIn q
  exact wpAny_call_exc_subT F T hC hN hni (fun h' e hm => mk_of I hm r h (I.hok.gone hm.new)) (by simp)
def tRaise0 (E : XK) (C : Addr) : TS := fun _ _ H => E (.ref C) none H
end
def sRaise0 (C : Addr) (q : QX) : DS := fun _ _ _ _ _ M => q C [] M
instance pux_raise0 {E : XK} {C : Addr} : PuXS E (tRaise0 E C) (fun q => sRaise0 C q) := ⟨fun S M σ δ H nx rt bk ct D q w e h l x => x C [] S M none H h .refl w (.inl ⟨rfl, rfl⟩)⟩
end V
namespace V
open PySem PySem.Spec PyProof.Rows L2 U StX
def dMethX (C : Addr) (m : Str) (sp : DCX) (q : QX) (a : DE) (b : DA) : DE := fun δ M P => a δ M fun x M1 => (∃ ns xs, isIn M1 x C ns xs ∧ m ∉ ns) ∧ b δ M1 fun ds M2 => sp (x :: ds) M2 P q
instance pux_meth {E : XK} {C : Addr} {m : Str} {sp : DCX} {ta : TE} {t : TA} {da : DE} {dt : DA} [A : PuE ta da] [B : PuA t dt] : PuXE E (tMeth C m (liftX sp) [] E ta t) (fun q => dMethX C m sp q da dt) := ⟨fun S M σ δ H P q Q w e h k x =>
  A.run S M σ δ H _ _ w e h fun d S1 M1 v H1 p1 t1 w1 h1 => by
    obtain ⟨⟨ns, xs, hi, hm⟩, p1⟩ := p1
    obtain ⟨a, dx, fs, rfl, ha, hn, hs⟩ := in_get w1 h1 hi
    refine ⟨a, dx, fs, rfl, ha, lookup_none (by rw [hn]; exact hm), B.run S1 M1 σ δ H1 _ _ w1 (e.step w t1) p1 fun ds S2 M2 vs H2 p2 t2 w2 h2 => ?_⟩
    rw [List.append_nil]
    exact ⟨S2, M2, d :: ds, P, q, w2, .cons (dt_step w1 t2 _ h1) h2, p2, k.go (t1.trans t2), x.go (t1.trans t2)⟩⟩
end V
namespace V.BO
open PySem PySem.Spec PySem.W PySem.Calls PyProof.Rows
end V.BO
namespace V
open PySem PySem.Spec PyProof.Rows L2 U StX
section
variable {X : Cx} {n : Nat} {f : Addr} {fd : FuncData} {ps : List Str} {C : Addr} {sp : Sp}
def rBoolO (C : Addr) (sp : Sp) : List V → Hp → VK → Prop := fun xs H Q => ∃ (a : Addr) (dx : Addr) (fs : List (Str × V)), xs = [.ref a] ∧ H a = some (.ins C dx fs) ∧ sp [.ref a] H (fun v H' => ∃ m : Int, v = .int m ∧ 0 ≤ m ∧ m < 2 ^ 63 ∧ Q (.bl (m != 0)) H') L2.E0
end
def rBoolO1 (C : Addr) (sp : DC) : DC := fun ds M P => ∃ d ns xs, ds = [d] ∧ isIn M d C ns xs ∧ sp [d] M fun e M' => ∃ m : Int, e = .int m ∧ 0 ≤ m ∧ m < 2 ^ 63 ∧ P (.bl (m != 0)) M'
instance cb_boolO {C : Addr} {sp : DC} : CbD (rBoolO C (lift sp)) (rBoolO1 C sp) := ⟨fun S M H vs ds P Q w hv h k => by
  obtain ⟨d, ns, xs, rfl, hm, q⟩ := h
  match vs, hv with
  | [v], .cons h1 .nil =>
    obtain ⟨a, dx, fs', rfl, ha, _, _⟩ := in_get w h1 hm
    refine ⟨a, dx, fs', rfl, ha, S, M, [d], _, w, .cons h1 .nil, q, fun d S' M' v' H' e st w' hd => ?_⟩
    obtain ⟨m, rfl, k0, k1, pp⟩ := e
    cases hd
    exact ⟨m, rfl, k0, k1, k _ S' M' _ H' pp st w' (.bl _)⟩⟩
end V
namespace V
open PySem PySem.Spec PyProof.Rows L2 U StX
def IsR (K : PySem.W.Frag) (d : D) (p : PyData) : Prop := ∀ (S : Addr → Prop) (H : Hp) (v : V), Dt S H v d → Dq K H v p
def IsRs (K : PySem.W.Frag) (ds : List D) (ps : List PyData) : Prop := ∀ (S : Addr → Prop) (H : Hp) (vs : List V), DtA S H vs ds → DqAll K H vs ps
structure OkR (K : PySem.W.Frag) (W k : Nat) (d : D) (p : PyData) : Prop where
  is : IsR K d p
  ok : PyQ W k p
structure OkRs (K : PySem.W.Frag) (W k : Nat) (ds : List D) (ps : List PyData) : Prop where
  is : IsRs K ds ps
  ok : PysQ W k ps
section
variable {K : PySem.W.Frag} {W W' k k' : Nat} {d : D} {p : PyData} {ds : List D} {ps : List PyData}
theorem OkR.of (q : IsQ d p) (h : PyQ W k p) : OkR K W k d p := ⟨fun _ _ _ hd => isQ_dq q hd, h⟩
theorem okQ.r (h : okQ W k d) : ∃ p, OkR K W k d p := let ⟨p, q, e⟩ := h; ⟨p, .of q e⟩
theorem OkR.mono (h : OkR K W k d p) (hw : W ≤ W') (hk : k ≤ k') : OkR K W' k' d p := ⟨h.is, h.ok.lv, h.ok.sh, Nat.le_trans h.ok.dep hk, Nat.le_trans h.ok.wt hw⟩
theorem OkRs.nil (W k : Nat) : OkRs K W k [] [] := ⟨fun _ _ _ h => by cases h; exact .nil, rfl, rfl, Nat.zero_le _, Nat.zero_le _⟩
theorem OkRs.cons : OkR K W k d p → OkRs K W' k ds ps → OkRs K (W + 1 + W') k (d :: ds) (p :: ps) := fun ⟨e, a⟩ ⟨e2, b⟩ => by
  obtain ⟨a1, a2, a3, a4⟩ := a
  obtain ⟨b1, b2, b3, b4⟩ := b
  refine ⟨fun S H vs h => ?_, ?_, ?_, ?_, ?_⟩
  · cases h with
    | cons h1 h2 => exact .cons (e _ _ _ h1) (e2 _ _ _ h2)
  · rw [PyData.leavesShortAll, a1, b1]; rfl
  · rw [PyData.showableAll, a2, b2]; rfl
  · rw [PyData.depthAll]; omega
  · rw [PyData.weightAll]; omega
theorem OkRs.list (h : OkRs K W k ds ps) : OkR K W (k + 1) (.lst ds) (.list ps) := ⟨fun S H v hd => by
  cases hd with
  | lst n ha hs => exact .lst (SqL.of ha) (h.is _ _ _ hs), by rw [PyData.leavesShort]; exact h.ok.lv, by rw [PyData.showable]; exact h.ok.sh, by rw [PyData.depth]; have := h.ok.dep; omega, by rw [PyData.weight]; exact h.ok.wt⟩
theorem OkRs.tuple (h : OkRs K W k ds ps) : OkR K W (k + 1) (.tup ds) (.tuple ps) := ⟨fun S H v hd => by
  cases hd with
  | tup n ha hs => exact .tup (SqT.of ha) (h.is _ _ _ hs), by rw [PyData.leavesShort]; exact h.ok.lv, by rw [PyData.showable]; exact h.ok.sh, by rw [PyData.depth]; have := h.ok.dep; omega, by rw [PyData.weight]; exact h.ok.wt⟩
theorem OkR.str {z : Str} {n : Nat} (h : ∀ c ∈ cd z, c < 0x110000) (hn : (cd z).length ≤ n) : OkR K n 0 (.str z) (.str z) := by
  obtain ⟨p, e, a⟩ := okQ.str h hn
  cases e
  exact .of (.str z) a
theorem OkR.int {i : Int} {b : Nat} (h : i.natAbs < 2 ^ b) (h0 : 0 < b := by decide) (hb : b ≤ 900 := by decide) : OkR K b 0 (.int i) (.int i) := by
  obtain ⟨p, e, a⟩ := okQ.int h h0 hb
  cases e
  exact .of (.int i) a
theorem OkR.bl (b : Bool) : OkR K 0 0 (.bl b) (.bool b) := by
  obtain ⟨p, e, a⟩ := okQ.bl b
  cases e
  exact .of (.bl b) a
theorem OkR.non : OkR K 0 0 .non .none := by
  obtain ⟨p, e, a⟩ := okQ.non
  cases e
  exact .of .non a
end
def rReprR1 (K : PySem.W.Frag) : DC := fun ds M P => ∃ d p, ds = [d] ∧ IsR K d p ∧ M sysModules = some .sys ∧ PyData.showable p = true ∧ PyData.depth p ≤ 40 ∧ (PyData.shown p).length ≤ sizeLine ∧ P (.str (PyData.shown p)) M
instance (priority := high) cb_reprR {K : PySem.W.Frag} : CbD (rReprQ K) (rReprR1 K) := ⟨fun S M H vs ds P Q w hv h k => by
  obtain ⟨d, p, rfl, e, hm, h1, h3, h4, q⟩ := h
  have hsys : SysK H := (w.mem _ _ hm).2
  match vs, hv with
  | [v], .cons h0 .nil => exact ⟨v, p, rfl, e _ _ _ h0, h1, hsys, h3, h4, k _ S M _ H q .refl w (.str _)⟩⟩
/-- repr of a datum whose shown text is known -/
theorem reprR {K : PySem.W.Frag} {d : D} {p : PyData} {W k : Nat} {M : Mem} {R : QD} (o : OkR K W k d p) (hm : M sysModules = some .sys) (q : R (.str (PyData.shown p)) M) (hk : k ≤ 40 := by decide) (hW : W ≤ 16000 := by decide) : rReprR1 K [d] M R := by
  obtain ⟨e, ho⟩ := o
  have hl : (PyData.shown p).length ≤ sizeLine := by
    have h := PyData.shown_le 1000 (by decide) p ho.lv
    have h2 : (1000 + 2) * PyData.weight p ≤ 1002 * 16000 := Nat.mul_le_mul (by decide) (Nat.le_trans ho.wt hW)
    rw [sizeLine_eq]
    omega
  exact ⟨d, p, rfl, e, hm, ho.sh, Nat.le_trans ho.dep hk, hl, q⟩
end V
namespace V
open PySem PySem.Spec PyProof.Rows L2 U StX
def dFmtR (a : DE) : DE := fun δ M P => a δ M fun x M1 => match x with
  | .str y => (reprText y).length ≤ sizeLine ∧ P (.str (reprText y)) M1
  | .int i => i.natAbs.log2 < 1920 ∧ P (.str (Str.ofString (toString i))) M1
  | _ => False
instance pu_fmtR {ta : TE} {da : DE} [A : PuE ta da] : PuE (tFmtR ta) (dFmtR da) := ⟨fun S M σ δ H P Q w e h k =>
  A.run S M σ δ H _ _ w e h fun d S1 M1 v H1 p1 t1 w1 h1 => by
    split at p1
    · cases h1
      exact .inl ⟨_, rfl, p1.1, k _ S1 M1 _ H1 p1.2 t1 w1 (.str _)⟩
    · cases h1
      exact .inr ⟨_, rfl, p1.1, k _ S1 M1 _ H1 p1.2 t1 w1 (.str _)⟩
    · exact p1.elim⟩
section
variable {X : Cx} {C : Addr}
/-- bool(x) of an instance that has neither a __bool__ nor a __len__ -/
def rBoolP (C : Addr) : List V → Hp → VK → Prop := fun xs H Q => ∃ (a : Addr) (dx : Addr) (fs : List (Str × V)), xs = [.ref a] ∧ H a = some (.ins C dx fs) ∧ Q (.bl true) H
def rBoolP1 (C : Addr) : DC := fun ds M P => ∃ d ns xs, ds = [d] ∧ isIn M d C ns xs ∧ P (.bl true) M
instance cb_boolP {C : Addr} : CbD (rBoolP C) (rBoolP1 C) := ⟨fun S M H vs ds P Q w hv h k => by
  obtain ⟨d, ns, xs, rfl, hm, q⟩ := h
  match vs, hv with
  | [v], .cons h1 .nil =>
    obtain ⟨a, dx, fs', rfl, ha, _, _⟩ := in_get w h1 hm
    exact ⟨a, dx, fs', rfl, ha, k _ S M _ H q .refl w (.bl _)⟩⟩
end
instance (priority := low) pu_makeF3210n {n : Nat} {E : XK} {C : Addr} {sp : DC} {tk : TA} {dk : DA} [B : PuA tk dk] : PuE (tMakeK C 0 n (liftF sp) (fun us ws => us ++ pk3_2_1_0 ws) E tNil tk) (dMakeK (rMakeF C sp) d3210 n dk) := ⟨fun S M σ δ H P Q w e h k =>
  B.run S M σ δ H _ _ w e h fun es S2 M2 zs H2 p2 t2 w2 h2 => ⟨rfl, by rw [h2.length]; exact p2.1, fun x dx nx nd ne => makeF_go w2 (pk3_2_1_0_dt h2) p2.2 (k.go t2) nx nd ne⟩⟩
end V
namespace V
open PySem PySem.Spec PyProof.Rows L2 U StX
end V
namespace V
open PySem PySem.Spec PyProof.Rows L2 U StX
def dgL (n : Nat) (g : DGs) : DG := fun d δ M P => ∃ xs, d = .lst xs ∧ xs.length = n ∧ g xs δ M P
instance pu_gLst {K : PySem.W.Frag} {n : Nat} {gs : TGs} {dgs : DGs} {s : List Nat} [A : PuGs gs dgs s] : PuG (gLst K n gs) (dgL n dgs) s := ⟨fun S M σ δ H v d P R w e h p k => by
  obtain ⟨xs, rfl, hl, p⟩ := p
  cases h with
  | lst n ha hs => exact ⟨_, _, rfl, SqL.of ha, by rw [hs.length]; exact hl, A.run S M σ δ H _ xs P R w e hs p k⟩⟩
end V
namespace V
open PySem PySem.Spec PyProof.Rows L2 U StX
def rNinS : R2 := fun x y H Q => ∃ i j, x = .str i ∧ y = .str j ∧ Q (.bl (!(!(Builtin.Str.occurrences j i 0 j.length 1).isEmpty))) H
def foundS (i j : Str) : Bool := !(Builtin.Str.occurrences j i 0 j.length 1).isEmpty
def rNinSD : DR := fun x y M P => ∃ i j, x = .str i ∧ y = .str j ∧ P (.bl (!foundS i j)) M
instance op_ninSD : OpD rNinS rNinSD := ⟨fun S M H x y dx dy P Q w hx hy h k => by
  obtain ⟨i, j, rfl, rfl, q⟩ := h
  cases hx
  cases hy
  exact ⟨i, j, rfl, rfl, k _ S M _ H q .refl w (.bl _)⟩⟩
end V
namespace V
open PySem PySem.Spec PyProof.Rows L2 U StX
def liftK (sp : DC) : List V → List V → Hp → VK → XK → Prop := fun vs kvs H Q E => ∃ x rest u, vs = x :: rest ∧ kvs = [u] ∧ rest.length ≤ sizeLine ∧ ∀ p, H p = none → lift sp [x, u, V.ref p] (upd H p (.tup rest)) Q E
/-- o.m(.., b = ..) -/
def tMethK (C : Addr) (m : Str) (sp : List V → List V → Hp → VK → XK → Prop) (E : XK) (ta : TE) (t tk : TA) : TE := fun σ H Q => ta σ H fun x H1 => ∃ a dx fs, x = .ref a ∧ H1 a = some (.ins C dx fs) ∧ fs.lookup m = none ∧
  t σ H1 fun vs H2 => tk σ H2 fun kvs H3 => vs.length ≤ 1000 ∧ kvs.length ≤ 1000 ∧ sp (x :: vs) kvs H3 Q E
/-- over data: the values left over are a tuple -/
def dMethK (C : Addr) (m : Str) (sp : DC) (a : DE) (t tk : DA) : DE := fun δ M P => a δ M fun x M1 => (∃ ns xs, isIn M1 x C ns xs ∧ m ∉ ns) ∧ t δ M1 fun ds M2 => tk δ M2 fun es M3 => ds.length ≤ 1000 ∧ ∃ u, es = [u] ∧ sp [x, u, .tup ds] M3 P
instance pu_methK {E : XK} {C : Addr} {m : Str} {sp : DC} {ta : TE} {t tk : TA} {da : DE} {dt dk : DA} [A : PuE ta da] [B : PuA t dt] [G : PuA tk dk] : PuE (tMethK C m (liftK sp) E ta t tk) (dMethK C m sp da dt dk) := ⟨fun S M σ δ H P Q w e h k =>
  A.run S M σ δ H _ _ w e h fun d S1 M1 v H1 p1 t1 w1 h1 => by
    obtain ⟨⟨ns, xs, hi, hm⟩, p1⟩ := p1
    obtain ⟨a, dx, fs, rfl, ha, hn, hs⟩ := in_get w1 h1 hi
    refine ⟨a, dx, fs, rfl, ha, lookup_none (by rw [hn]; exact hm), B.run S1 M1 σ δ H1 _ _ w1 (e.step w t1) p1 fun ds S2 M2 vs H2 p2 t2 w2 h2 => ?_⟩
    refine G.run S2 M2 σ δ H2 _ _ w2 (e.step w (t1.trans t2)) p2 fun es S3 M3 zs H3 p3 t3 w3 h3 => ?_
    obtain ⟨hl, u, rfl, q⟩ := p3
    match zs, h3 with
    | [zu], .cons hu .nil =>
      have h23 := dtA_step w2 t3 _ h2
      have h13 := dt_step w1 (t2.trans t3) _ h1
      refine ⟨by rw [h2.length]; exact hl, by simp, _, vs, zu, rfl, rfl, by rw [h2.length, sizeLine_eq]; omega, fun p hp => ?_⟩
      have t4 : Step S3 M3 H3 S3 M3 (upd H3 p (.tup vs)) := .new hp
      have w4 := w3.new (o := .tup vs) hp
      exact ⟨S3, M3, [d, u, .tup ds], P, w4, .cons (dt_step w3 t4 _ h13) (.cons (dt_step w3 t4 _ hu) (.cons (.tup (w3.ns hp) upd_same (h23.sm (Same.new hp))) .nil)), q, k.go (((t1.trans t2).trans t3).trans t4)⟩⟩
def tTryFin (tb tf : TS) : TS := fun D σ H => tb { nx := fun σ1 H1 => tf D σ1 H1, rt := fun _ _ => False } σ H
def sTryFin (b f : DS) : DS := fun nx rt bk ct δ M => b (fun δ1 M1 => f nx rt bk ct δ1 M1) (fun _ _ => False) (fun _ _ => False) (fun _ _ => False) δ M
instance pu_tryFin {tb tf : TS} {db df : DS} [A : PuS tb db] [B : PuS tf df] : PuS (tTryFin tb tf) (sTryFin db df) := ⟨fun S M σ δ H nx rt bk ct D w e h l =>
  A.run S M σ δ H _ _ _ _ _ w e h ⟨fun δ1 S1 M1 σ1 H1 p1 t1 w1 e1 => B.run S1 M1 σ1 δ1 H1 nx rt bk ct D w1 e1 p1 (l.go t1), fun _ _ _ _ _ q => q.elim, fun _ _ _ _ _ q => q.elim, fun _ _ _ _ _ q => q.elim⟩⟩
end V
namespace V
open PySem PySem.Spec PyProof.Rows L2 U StX
def liftK0 (sp : DC) : List V → List V → Hp → VK → XK → Prop := fun vs kvs H Q E => ∃ x rest, vs = x :: rest ∧ kvs = [] ∧ rest.length ≤ sizeLine ∧ ∀ p, H p = none → lift sp [x, .non, V.ref p] (upd H p (.tup rest)) Q E
/-- over data -/
def dMethK0 (C : Addr) (m : Str) (sp : DC) (a : DE) (t : DA) : DE := fun δ M P => a δ M fun x M1 => (∃ ns xs, isIn M1 x C ns xs ∧ m ∉ ns) ∧ t δ M1 fun ds M2 => ds.length ≤ 1000 ∧ sp [x, .non, .tup ds] M2 P
instance pu_methK0 {E : XK} {C : Addr} {m : Str} {sp : DC} {ta : TE} {t : TA} {da : DE} {dt : DA} [A : PuE ta da] [B : PuA t dt] : PuE (tMethK C m (liftK0 sp) E ta t tNil) (dMethK0 C m sp da dt) := ⟨fun S M σ δ H P Q w e h k =>
  A.run S M σ δ H _ _ w e h fun d S1 M1 v H1 p1 t1 w1 h1 => by
    obtain ⟨⟨ns, xs, hi, hm⟩, p1⟩ := p1
    obtain ⟨a, dx, fs, rfl, ha, hn, hs⟩ := in_get w1 h1 hi
    refine ⟨a, dx, fs, rfl, ha, lookup_none (by rw [hn]; exact hm), B.run S1 M1 σ δ H1 _ _ w1 (e.step w t1) p1 fun ds S2 M2 vs H2 p2 t2 w2 h2 => ?_⟩
    obtain ⟨hl, q⟩ := p2
    refine ⟨by rw [h2.length]; exact hl, by simp, _, vs, rfl, rfl, by rw [h2.length, sizeLine_eq]; omega, fun p hp => ?_⟩
    have t4 : Step S2 M2 H2 S2 M2 (upd H2 p (.tup vs)) := .new hp
    have w4 := w2.new (o := .tup vs) hp
    exact ⟨S2, M2, [d, .non, .tup ds], P, w4, .cons (dt_step w2 t4 _ (dt_step w1 t2 _ h1)) (.cons .non (.cons (.tup (w2.ns hp) upd_same (h2.sm (Same.new hp))) .nil)), q, k.go ((t1.trans t2).trans t4)⟩⟩
def dPop (a : DE) : DE := fun δ M P => a δ M fun x M1 => ∃ l xs d, x = .ptr l ∧ M1 l = some (.lst xs) ∧ xs[xs.length - 1]? = some d ∧ P d (mset M1 l (.lst xs.dropLast))
theorem dtA_init {S : Addr → Prop} {H : Hp} : ∀ {vs : List V} {ds : List D}, DtA S H vs ds → DtA S H vs.dropLast ds.dropLast
  | [], [], .nil => .nil
  | [_], [_], .cons _ .nil => .nil
  | _ :: _ :: _, _ :: _ :: _, .cons h (.cons h2 t) => .cons h (dtA_init (.cons h2 t))
instance pu_pop {K : PySem.W.Frag} {ta : TE} {da : DE} [A : PuE ta da] : PuE (tBM0 K "list" rPop ta) (dPop da) := ⟨fun S M σ δ H P Q w e h k =>
  A.run S M σ δ H _ _ w e h fun d S1 M1 v H1 p1 t1 w1 h1 => by
    obtain ⟨l, xs, y, rfl, hm, hy, p1⟩ := p1
    cases h1
    obtain ⟨sl, vs, ha, hs⟩ := w1.mem l _ hm
    have ex : Ext S1 H1 (upd H1 l (.lst vs.dropLast)) := Ext.mut (Ext.refl _) sl
    obtain ⟨u, hu, hd⟩ := hs.get hy
    exact ⟨.inl ⟨rfl, _, SqL.of ha⟩, l, vs, u, rfl, rfl, ha, by rw [hs.length]; exact hu, k _ _ _ _ _ p1 (t1.trans (.change hm)) (w1.change hm ⟨_, upd_same, (dtA_init hs).go ex⟩) (hd.go ex)⟩⟩
def rAddM : R2 := fun x y H Q => ∃ p q, x = V.ref p ∧ y = V.ref q ∧ rAddU x y H Q
def rAddM1 : DR := fun x y M P => ∃ xs ys, isLs M x xs ∧ isLs M y ys ∧ xs.length + ys.length ≤ sizeLine ∧ ∀ a, M a = none → P (.ptr a) (mset M a (.lst (xs ++ ys)))
instance op_addM1 : OpD rAddM rAddM1 := ⟨fun S M H x y dx dy P Q w hx hy h k => by
  obtain ⟨xs, ys, h1, h2, hl, h⟩ := h
  obtain ⟨a, vs, rfl, ha, hs⟩ := ls_get w hx h1
  obtain ⟨b, ws, rfl, hb, ht⟩ := ls_get w hy h2
  refine ⟨a, b, rfl, rfl, rAddU_l ha hb (by rw [hs.length, ht.length]; exact hl) fun p hp => ?_⟩
  have hs3 : DtA (fun a => S a ∨ a = p) (upd H p (.lst (vs ++ ws))) (vs ++ ws) (xs ++ ys) := by
    have := DtA.set (S := S) (S' := fun a => S a ∨ a = p) (fun b n k z => z.elim n fun q => k (by rw [q]; exact hp)) _ (hs.append ht)
    exact this.sm (Same.new hp)
  exact k (.ptr p) _ _ (.ref p) _ (h p (w.fresh hp)) (.mutable w hp) (w.mutable hp ⟨_, upd_same, hs3⟩) (.ptr p)⟩
end V
namespace PySem
namespace HandSPX
open Spec PyProof.Rows
section
variable {M : Model} {prog : Program} {w : World} {A : Around} {E : Value → Shared → Prop} {R : Result → Shared → Prop} {h : Heap} {g : Array GenState} {d : Drawn} {t : Nat} {os : OsState}
variable {nm q : Str} {C N : Addr} {bs bm bmB : List Value} {hdct : Bool} {sn : List Str} {sub : List Value} {ab : Bool} {col : Option Bool} {dd : Option Addr} {k0 k1 k2 k3 k5 : Option Value} {B newId initId : String}
theorem wpAny_check_type_call_subK {M : Model} {kn : Str} {kv : Value} {Q : Unit → Shared → Prop} (hC : h.get? C = some (excClassObj nm q C N bs bm hdct sn sub ab col dd k0 k1 k2 k3 k5 newId))
    (hq : Q () ⟨h, g, d, t, os⟩) : wpAny M A (checkBuiltinCall "type.__call__" ⟨[.ref C], [(kn, kv)]⟩) Q E ⟨h, g, d, t, os⟩ := by
  have f3 := tc_sub
  have hT : (⟨h, g, d, t, os⟩ : Shared).TypeIs (.ref C) "type" := ⟨_, hC, rfl⟩
  simp only [checkBuiltinCall, tc_kind, tc_split]
  repeat (any_goals (first | assumption | with_reducible refine wpAny_loadPart_at hC ?_ | with_reducible refine wpAny_onRaise ?_ | with_reducible refine wpAny_map ?_ | wp_step))
theorem check_new_ownK (F : ExcBaseFacts B newId initId bmB) (hT : ∀ X : String, bm.contains (.type X) = bmB.contains (.type X)) {kn : Str} {kv : Value} {Q : Unit → Shared → Prop}
    (hC : h.get? C = some (excClassObj nm q C N bs bm hdct sn sub ab col dd k0 k1 k2 k3 k5 newId)) (hq : Q () ⟨h, g, d, t, os⟩) : wpAny M A (checkBuiltinCall newId ⟨[.ref C], [(kn, kv)]⟩) Q E ⟨h, g, d, t, os⟩ := by
  have hcont : (Value.ref C :: bm).contains (.type B) = true := by rw [List.contains_cons, hT, F.hasB, Bool.or_true]
  have hstar := F.noStar
  simp only [checkBuiltinCall, F.newKind, F.newSplit, F.newRow]
  repeat (first | refine wpAny_loadPart_at hC ?_ | (refine wpAny_isSubtype_exc hC ?_; rw [hcont]) | refine wpAny_staticBase_exc hC ?_ | refine wpAny_madeBy_exc hC ?_ | simp only [bne_self_eq_false, Bool.false_eq_true, if_false] | wp_step)
  exact hq
theorem new_ownK (F : ExcBaseFacts B newId initId bmB) (hT : ∀ X : String, bm.contains (.type X) = bmB.contains (.type X)) {kn : Str} {kv : Value}
    (hC : h.get? C = some (excClassObj nm q C N bs bm hdct sn sub ab col dd k0 k1 k2 k3 k5 newId))
    (hq : R (.ok (.ret (.ref (h.objs.size + 1)))) ⟨(h.push { cls := .type "tuple", data := .seq ([] : List Value).toArray }).push
      { cls := .ref C, data := .fields #[.ref h.objs.size, .none, .none, .none, .bool false, .none] }, g, d, t, os⟩) :
    codeAny (model prog w) A (.builtin newId ⟨[.ref C], [(kn, kv)]⟩) R ⟨h, g, d, t, os⟩ := by
  have hends := F.ends
  have hcB : (Value.ref C :: bm).contains (.type B) = true := by rw [List.contains_cons, hT, F.hasB, Bool.or_true]
  have hcA : (Value.ref C :: bm).contains (.type "AttributeError") = false := by rw [List.contains_cons, hT, F.noAttr]; rfl
  have hcN : (Value.ref C :: bm).contains (.type "NameError") = false := by rw [List.contains_cons, hT, F.noName]; rfl
  refine codeAny_builtinAt F.entry ?_
  unfold Builtin.«BaseException.__new__»
  refine wpAt_bind ?_
  show wpAt _ _ _ (stack >>= _) _ _ _
  refine wpAt_bind (wpAt_stack fun p below => wpAt_of_wpAny ?_)
  wp_walk
  refine wpAt_of_wpAny ?_
  rw [F.owner]
  repeat (first | with_reducible refine wpAny_madeHere_exc F.canon hC ?_ | with_reducible refine wpAny_loadPart_at hC ?_ | (with_reducible refine wpAny_isSubtype_exc hC ?_; first | rw [hcB] | rw [hcA] | rw [hcN]) | wp_step)
  show R _ _
  rw [Heap.size_push]
  exact hq
theorem type_call_ownK (F : ExcBaseFacts B newId initId bmB) (hT : ∀ X : String, bm.contains (.type X) = bmB.contains (.type X)) {kn : Str} {kv : Value} {fI : Addr} {Q : Fin → Shared → Prop}
    (hC : h.get? C = some (excClassObj nm q C N bs bm hdct sn sub ab col dd k0 k1 k2 k3 k5 newId))
    (hi : W.Looks (model prog w) h (typeLookup (.ref C) "__init__") (some (.ref fI))) (hb : ∀ self, W.Looks (model prog w) h (bindSpecial (.ref fI) self) (.ref fI, [self]))
    (hq : codeAny (model prog w) A (.call (.ref fI) ⟨[.ref (h.objs.size + 1)], [(kn, kv)]⟩)
      (fun r s' => match r with | .ok (.ret v) => v = .none ∧ Q (.done (.ret (.ref (h.objs.size + 1)))) s' | .ok _ => False | .error e => E e s')
      ⟨(h.push (W.kdv_tup [])).push (excO C h.objs.size), g, d, t, os⟩) :
    wpAny (model prog w) A (Builtin.«type.__call__» ⟨[.ref C], [(kn, kv)]⟩) Q E ⟨h, g, d, t, os⟩ := by
  repeat (first | with_reducible refine wpAny_loadPart_at hC ?_ | with_reducible refine wpAny_madeBy_exc hC ?_ | wp_step)
  refine codeAny_call_builtin_code (Code.quiet_builtin _ F.quiet) (check_new_ownK F hT hC ?_)
  refine new_ownK F hT hC ?_
  show wpAny _ _ _ _ _ _
  have k : ∀ b o, h.get? b = some o → ((h.push (W.kdv_tup [])).push (excO C h.objs.size)).get? b = some o := fun b o e => Heap.get?_push_of_some _ (Heap.get?_push_of_some _ e)
  have hC₁ := k _ _ hC
  have hget : ((h.push (W.kdv_tup [])).push (excO C h.objs.size)).get? (h.objs.size + 1) = some (excO C h.objs.size) := by heap_get
  have hcC : (Value.ref C :: bm).contains (.ref C) = true := by simp
  have i1 := hi.keeps k
  have b1 := (hb (.ref (h.objs.size + 1))).keeps k
  unfold isInstance
  repeat (first | with_reducible refine wpAny_loadPart_at hget ?_ | (with_reducible refine wpAny_isSubtype_exc hC₁ ?_; rw [hcC]) | wp_step)
  show wpAny _ _ (typeLookup (.ref C) _) _ _ _
  refine i1.at ?_
  refine wpAny_holding (wpAny_bind (b1.at ?_))
  refine wpAny_bind (wpAny_call (codeAny_mono hq fun r s' z => ?_))
  rcases r with e | (v | _ | _ | _) <;> first | exact z | exact z.elim | skip
  obtain ⟨rfl, z⟩ := z
  first
    | exact wpAny_pure (wpAny_pure z)
    | (wp_walk; exact z)
theorem call_ownK (F : ExcBaseFacts B newId initId bmB) (hT : ∀ X : String, bm.contains (.type X) = bmB.contains (.type X)) {kn : Str} {kv : Value} {fI : Addr}
    (hC : h.get? C = some (excClassObj nm q C N bs bm hdct sn sub ab col dd k0 k1 k2 k3 k5 newId))
    (hi : W.Looks (model prog w) h (typeLookup (.ref C) "__init__") (some (.ref fI))) (hb : ∀ self, W.Looks (model prog w) h (bindSpecial (.ref fI) self) (.ref fI, [self]))
    (hq : codeAny (model prog w) (A.under (.builtin "type.__call__" ⟨[.ref C], [(kn, kv)]⟩)) (.call (.ref fI) ⟨[.ref (h.objs.size + 1)], [(kn, kv)]⟩) (W.InitBack (h.objs.size + 1) R)
      ⟨(h.push (W.kdv_tup [])).push (excO C h.objs.size), g, d, t, os⟩) :
    codeAny (model prog w) A (.call (.ref C) ⟨[], [(kn, kv)]⟩) R ⟨h, g, d, t, os⟩ := by
  have f1 := tc_lookup
  have f2 := tc_bind (.ref C)
  have hTy : (⟨h, g, d, t, os⟩ : Shared).TypeIs (.ref C) "type" := ⟨_, hC, rfl⟩
  refine codeAny_of_tree ?_
  show wpAny _ _ (callAny (.ref C) _) _ _ _
  repeat (any_goals (first | assumption | with_reducible refine wpAny_loadPart_at hC ?_ | wp_step))
  refine ⟨rfl, ?_⟩
  refine codeAny_call_builtin_at (Code.quiet_builtin _ (by decide +kernel)) entry_typeCall (wpAny_check_type_call_subK hC (type_call_ownK F hT hC hi hb ?_))
  refine codeAny_mono hq fun r s' z => ?_
  rcases r with e | (v | _ | _ | _) <;> exact z
end
end HandSPX
end PySem
namespace V
open PySem PySem.Spec PyProof.Rows L2 U StX
/-- an expression that makes an exception, as a value -/
theorem pe_made {X : Cx} {e : Expr} {t : L2.St → Hp → XK → Prop} (h : PMk X e t) : PE X e (fun σ H Q => t σ H fun cls d H' => ∀ (a : Addr) (oe : Obj) (us : Array Value), H' a = none → oe.cls = cls → oe.dict = d → oe.data = .fields us → Q (.ref a) (upd H' a (xObj oe))) := by
  refine ⟨fun pins s σ H Q I q => ?_⟩
  refine wpAny_mono (h pins s σ H _ I q) (fun u s' hu => ?_) fun _ _ z => z
  obtain ⟨a, oe, vs, sI, H', cls, d, rfl, J, kp, na, ho, hz, hd, h1, hn, hos, hb, hr, q⟩ := hu
  have new : ObjOk X.prog X.w (upd H' a (xObj oe)) s'.heap a (xObj oe) := ⟨ho, trivial, ⟨_, ho⟩, fun _ _ _ _ => trivial⟩
  have J2 := J.laidN (t' := sI.toks) (o := xObj oe) (h' := s'.heap) kp na hn new
  exact ⟨.ref a, _, ⟨J2.ok, hos.trans J2.os, hb, J2.base, J2.loc, J2.cell, J2.free, J2.freeC, J2.pin, J2.hok, J2.len⟩, rfl, q a oe vs hn hz.1 hz.2 hd⟩
section
variable {X : Cx} {x f : Str} {C fI : Addr} {k : Nat} {fd : FuncData} {ps : List Str} {sp : Sp} {p pos : Pos} {e : Expr} {kpos : Pos} {te : TE} {B newId initId : String} {tl : List Value} {g : List Value → List Value → List Value} {gV : List V → List V → List V} {kn : Str}
/-- C(n = e), C's own __init__ keeping sp -/
theorem pmk_oexK {CX : CXT} (T : OexG X.K C B newId initId tl) (iC : PySem.W.findIn X.K (.ref C) "__init__" = some (some (.ref fI))) (tI : PySem.W.typeIn X.K (.ref fI) = some (.type "function"))
    (F1 : FnOk X.prog X.w X.K X.mg X.base CX k fI fd ps sp) (hr : Room (k + 1) X.A) (hb : KBn X.K fd ps 1 [kn] g gV) (hgV : ∀ a y, gV [a] [y] = [a, y]) (hx : Passes CX X (fun _ _ _ => False)) (hg : Gl X x) (hm : X.mg x = some (.ref C)) (he : PE X e te)
    (hdb : (x == ("__debug__" : Str)) = false := by decide)
    (hall : (backToKw pos (keywordEach [⟨some kn, e, kpos⟩] X.env)).all (·.1.isSome) = true := by rfl) (hks : (backToKw pos (keywordEach [⟨some kn, e, kpos⟩] X.env)).filterMap (·.1) = [kn] := by rfl)
    (hpl : ((backTo pos (starEach [] X.env)).any (·.1) || (backToKw pos (keywordEach [⟨some kn, e, kpos⟩] X.env)).any (·.1.isNone)) = false := by rfl) :
    PMk X (.Call (.Name x p) [] [⟨some kn, e, kpos⟩] pos) (tMkO C sp [] (tCons te tNil)) := by
  intro pins s σ H Q I h
  obtain ⟨nm, q, N, bs, bm, sn, sub, ab, col, dd, k0, k1, k2, k3, k5, hC, hbm⟩ := T.cls
  refine wpAny_Call_Name_kw (ld_glob I hg hm ?_ hdb)
  refine PySem.W.callWith_KW0 (first := []) (h₀ := X.base) I.ok.mod.kin T.kC hall ?_ hpl
  show wpAny _ _ (evalAll [(do let v ← eval e X.env; standAt pos; pure v)]) _ _ s
  refine wpAny_evalAll_cons (wpAny_bind (thn (he.run pins s σ H _ I h) fun u s1 ⟨y, H1, I1, ry, hz, q1⟩ => wpAny_bind (wpAny_standAt (wpAny_pure ?_))))
  refine wpAny_evalAll_nil ⟨I1.kIn, ?_⟩
  rw [hks]
  show wpAny _ _ (call (.ref C) [] [(kn, u)]) _ _ _
  obtain ⟨hp, g0, dr, tk0, os⟩ := s1
  have hsz : hp.objs.size ≤ hp.objs.size + 1 := Nat.le_succ _
  have hq := q1 (hp.objs.size + 1) (I1.hok.fresh hsz)
  have kk : ∀ b o, hp.get? b = some o → ((hp.push (PySem.W.kdv_tup [])).push (PySem.HandSPX.excO C hp.objs.size)).get? b = some o := fun b o e => Heap.get?_push_of_some _ (Heap.get?_push_of_some _ e)
  have hget : ((hp.push (PySem.W.kdv_tup [])).push (PySem.HandSPX.excO C hp.objs.size)).get? (hp.objs.size + 1) = some (PySem.HandSPX.excO C hp.objs.size) := by heap_get
  have I2 := I1.laid (t' := tk0) (a := hp.objs.size + 1) (o := exo (hp.objs.size + 1) C none) (h' := (hp.push (PySem.W.kdv_tup [])).push (PySem.HandSPX.excO C hp.objs.size)) kk hsz (exo_ok hget)
  have r2 : Vals [V.ref (hp.objs.size + 1), y] (g [Value.ref (hp.objs.size + 1)] [u]) := by rw [← hgV]; exact hb.rel (.cons rfl .nil) (.cons ry .nil)
  have hl := F1.len _ _ _ _ hq
  refine wpAny_call (PySem.HandSPX.call_ownK T.base (fun Y => XA.refsB_has Y bm hbm) (I1.kIn _ _ hC) (PySem.W.looks_findIn I1.kIn iC) (fun self => PySem.W.bind_fn I1.kIn self tI)
    (codeAny_mono (F1.run _ X.stack _ _ ⟨[Value.ref (hp.objs.size + 1)], [(kn, u)]⟩ (g [Value.ref (hp.objs.size + 1)] [u]) _ _ (fun _ _ _ => False) (hr.make C [] [(kn, u)]) (I2.env0.make C [] [(kn, u)]) (hb.to _ [Value.ref (hp.objs.size + 1)] [u] I2.kIn rfl rfl) r2 hq) fun r s' hq' => ?_))
  cases r with
  | error er => exact hx pins σ _ _ er s' I2 hq'
  | ok fl =>
    cases fl with
    | ret w =>
      obtain ⟨v, H2, os2, bare2, un2, hok2, rv, ev, d, fs, ea, ed, hd1, q2⟩ := hq'
      subst ev
      obtain ⟨h2, g2, d2, t2, os'⟩ := s'
      exact ⟨rv, mk_end (raises_own T.exC T.tyC) I1 hsz kk un2 hok2 os2 bare2 ea ed hd1 q2⟩
    | next => exact False.elim hq'
    | brk => exact False.elim hq'
    | cont => exact False.elim hq'
end
end V
namespace V
open PySem PySem.Spec PyProof.Rows L2 U StX
def tlValue : List Value := [.type "ValueError", .type "Exception", .type "BaseException", .type "object"]
theorem pass_value : ∀ self, refuseLoop self "__setattr__" tlValue = pure () := fun self => PySem.F.store_ValueError.passes self
theorem refsVE_B : ∀ l : List Value, PySem.HandSPX.refsVE l = true → refsB tlValue l = true
  | [], h => absurd h (by decide)
  | a :: r, h => by
    rcases PySem.HandSPX.refsVE_cases (a :: r) h with ⟨c, r', q, h2⟩ | q
    · obtain ⟨rfl, rfl⟩ := List.cons.inj q
      exact refsVE_B r h2
    · rw [q]
      rfl
theorem oexG_of {K : PySem.W.Frag} {C : Addr} (T : OexC K C) : OexG K C "ValueError" "ValueError.__new__" "ValueError.__init__" tlValue :=
  let ⟨nm, q, N, bs, bm, sn, sub, ab, col, dd, k0, k1, k2, k3, k5, h1, h2⟩ := T.cls
  ⟨PySem.F.excBase_ValueError, pass_value, rfl, ⟨nm, q, N, bs, bm, sn, sub, ab, col, dd, k0, k1, k2, k3, k5, h1, refsVE_B _ h2⟩, T.sa, T.exC, T.tyC, T.kC⟩
def tMade (C : Addr) (f : Str) (ta : TA) : TE := fun σ H Q => tMkO C (spExI C f) [] ta σ H fun cls d H' => ∀ (a : Addr) (oe : Obj) (us : Array Value), H' a = none → oe.cls = cls → oe.dict = d → oe.data = .fields us → Q (.ref a) (upd H' a (xObj oe))
def tMade0 (C : Addr) : TE := fun _ H Q => ∀ (a : Addr) (oe : Obj) (us : Array Value), H a = none → oe.cls = .ref C → oe.dict = none → oe.data = .fields us → Q (.ref a) (upd H a (xObj oe))
section
variable {X : Cx} {x f : Str} {C fI : Addr} {k : Nat} {fd : FuncData} {ps : List Str} {p pos kpos : Pos} {e : Expr} {te : TE} {B newId initId : String} {tl : List Value} {g : List Value → List Value → List Value} {gV : List V → List V → List V} {kn : Str}
theorem pe_exG (T : OexG X.K C B newId initId tl) (iC : PySem.W.findIn X.K (.ref C) "__init__" = some (some (.ref fI))) (tI : PySem.W.typeIn X.K (.ref fI) = some (.type "function"))
    (F : FnOk X.prog X.w X.K X.mg X.base L2.CX0 k fI fd ps (spExI C f)) (hr : Room (k + 1) X.A) (hb : Binds X.K fd ps []) (hg : Gl X x) (hm : X.mg x = some (.ref C)) (he : PE X e te)
    (hdb : (x == ("__debug__" : Str)) = false := by decide) (hs : starEach (e :: []) X.env = (false, eval e X.env) :: starEach [] X.env := by rfl) (hpl : (backTo pos (starEach [] X.env)).any (·.1) = false := by rfl) :
    PE X (.Call (.Name x p) [e] [] pos) (tMade C f (tCons te tNil)) :=
  pe_made (pmk_oexG (dvs := []) (ds := []) T iC tI F hr hb .nil (fun _ _ _ _ _ _ _ h => h.elim) hg hm (pa_cons he pa_nil hs) (p := p) (pos := pos) hdb hs hpl)
theorem pe_exK (T : OexG X.K C B newId initId tl) (iC : PySem.W.findIn X.K (.ref C) "__init__" = some (some (.ref fI))) (tI : PySem.W.typeIn X.K (.ref fI) = some (.type "function"))
    (F : FnOk X.prog X.w X.K X.mg X.base L2.CX0 k fI fd ps (spExI C f)) (hr : Room (k + 1) X.A) (hb : KBn X.K fd ps 1 [kn] (fun us ws => us ++ pk0 ws) (fun us ws => us ++ pk0 ws)) (hg : Gl X x) (hm : X.mg x = some (.ref C)) (he : PE X e te)
    (hdb : (x == ("__debug__" : Str)) = false := by decide)
    (hall : (backToKw pos (keywordEach [⟨some kn, e, kpos⟩] X.env)).all (·.1.isSome) = true := by rfl) (hks : (backToKw pos (keywordEach [⟨some kn, e, kpos⟩] X.env)).filterMap (·.1) = [kn] := by rfl)
    (hpl : ((backTo pos (starEach [] X.env)).any (·.1) || (backToKw pos (keywordEach [⟨some kn, e, kpos⟩] X.env)).any (·.1.isNone)) = false := by rfl) :
    PE X (.Call (.Name x p) [] [⟨some kn, e, kpos⟩] pos) (tMade C f (tCons te tNil)) :=
  pe_made (pmk_oexK T iC tI F hr hb (fun _ _ => rfl) (fun _ _ _ _ _ _ _ h => h.elim) hg hm he hdb hall hks hpl)
theorem pe_ex0 {bmB : List Value} {BB nI iI : String} (F : ExcBaseFacts BB nI iI bmB) (q : PySem.W.excIn X.K C bmB nI = true) (gC : X.mg x = some (.ref C)) (kC : PySem.W.keepIn X.K (.ref C) = true) (e1 : PySem.W.subIn X.K (.ref C) (.type "BaseException") = some true) (e2 : PySem.W.typeIn X.K (.ref C) = some (.type "type")) (hg : Gl X x)
    (hdb : (x == ("__debug__" : Str)) = false := by decide) : PE X (.Call (.Name x p) [] [] pos) (tMade0 C) := pe_made (pmk_own0 F q gC kC (raises_own e1 e2) hg hdb)
end
def dMade (C : Addr) (f : Str) (a : DE) : DE := fun δ M P => a δ M fun y M1 => ∀ b, M1 b = none → P (.ptr b) (mset M1 b (.xob C [(f, y)]))
def dMade0 (C : Addr) : DE := fun _ M P => ∀ b, M b = none → P (.ptr b) (mset M b (.xob C []))
instance pu_made {C : Addr} {f : Str} {te : TE} {da : DE} [A : PuE te da] : PuE (tMade C f (tCons te tNil)) (dMade C f da) := ⟨fun S M σ δ H P Q w e h k =>
  A.run S M σ δ H _ _ w e h fun d S1 M1 v H1 p1 t1 w1 h1 => by
    refine ⟨by simp, fun a na => ⟨a, v, rfl, upd_same, fun dx nd ne => ?_⟩⟩
    have nd1 : H1 dx = none := by rw [upd_ne ne] at nd; exact nd
    refine ⟨rfl, dx, [(f, v)], upd_same, by rw [upd_ne ne, upd_same], nd1, ?_⟩
    rw [upd_back na ne]
    intro b oe us hb e1 e2 e3
    have w' := w1.new (o := .xd [(f, v)]) nd1
    have t' := t1.trans (Step.new (S := S1) (M := M1) (o := .xd [(f, v)]) nd1)
    have xf : XF S1 (upd H1 dx (.xd [(f, v)])) oe.dict [(f, d)] := .inr ⟨dx, _, e2, w1.ns nd1, upd_same, rfl, .cons (h1.sm (Same.new nd1)) .nil⟩
    exact k _ _ _ _ _ (p1 b (w'.fresh hb)) (t'.trans (Step.mutable (S := S1) (M := M1) (mo := .xob C [(f, d)]) (o := xObj oe) w' hb)) (w'.mutable hb (held_xob hb e1 e3 xf)) (.ptr b)⟩
instance pu_made0 {C : Addr} : PuE (tMade0 C) (dMade0 C) := ⟨fun S M σ δ H P Q w e h k => by
  intro b oe us hb e1 e2 e3
  exact k _ _ _ _ _ (h b (w.fresh hb)) (Step.mutable (S := S) (M := M) (mo := .xob C []) (o := xObj oe) w hb) (w.mutable hb (held_xob hb e1 e3 (.inl ⟨e2, rfl⟩))) (.ptr b)⟩
theorem x_made {C : Addr} {f : Str} {a : DE} {δ : Dl} {M : Mem} {P : QD} (h : a δ M fun y M1 => ∀ b, M1 b = none → P (.ptr b) (mset M1 b (.xob C [(f, y)]))) : dMade C f a δ M P := h
theorem x_made0 {C : Addr} {δ : Dl} {M : Mem} {P : QD} (h : ∀ b, M b = none → P (.ptr b) (mset M b (.xob C []))) : dMade0 C δ M P := h
end V
namespace G
open PySem PySem.Spec PyProof.Rows L2 U V
def top (i : Nat) : Stmt := PySem.Challenge.pw_shownshort_k07_errors_and_limits.main.body.getD i (.Pass ⟨0, 0, 0, 0⟩)
abbrev s_InvalidNumber___init__ : Stmt := inClass (top 4) 0
abbrev lv_InvalidNumber___init__ : Nat := 1
abbrev n_InvalidNumber___init__ : List Str := ["self", "value"]
abbrev p_InvalidNumber___init__ : List Str := ["self", "value"]
theorem sc_InvalidNumber___init__ : FnScope n_InvalidNumber___init__ p_InvalidNumber___init__ (L2.defScope s_InvalidNumber___init__) := ⟨rfl, rfl, rfl, by decide +kernel, rfl, by decide +kernel, by decide +kernel⟩
abbrev s_InvalidMark___init__ : Stmt := inClass (top 5) 0
abbrev lv_InvalidMark___init__ : Nat := 1
abbrev n_InvalidMark___init__ : List Str := ["self", "value"]
abbrev p_InvalidMark___init__ : List Str := ["self", "value"]
theorem sc_InvalidMark___init__ : FnScope n_InvalidMark___init__ p_InvalidMark___init__ (L2.defScope s_InvalidMark___init__) := ⟨rfl, rfl, rfl, by decide +kernel, rfl, by decide +kernel, by decide +kernel⟩
abbrev s_InvalidText___init__ : Stmt := inClass (top 6) 0
abbrev lv_InvalidText___init__ : Nat := 1
abbrev n_InvalidText___init__ : List Str := ["self", "value"]
abbrev p_InvalidText___init__ : List Str := ["self", "value"]
theorem sc_InvalidText___init__ : FnScope n_InvalidText___init__ p_InvalidText___init__ (L2.defScope s_InvalidText___init__) := ⟨rfl, rfl, rfl, by decide +kernel, rfl, by decide +kernel, by decide +kernel⟩
abbrev s_InvalidLength___init__ : Stmt := inClass (top 7) 0
abbrev lv_InvalidLength___init__ : Nat := 1
abbrev n_InvalidLength___init__ : List Str := ["self", "value"]
abbrev p_InvalidLength___init__ : List Str := ["self", "value"]
theorem sc_InvalidLength___init__ : FnScope n_InvalidLength___init__ p_InvalidLength___init__ (L2.defScope s_InvalidLength___init__) := ⟨rfl, rfl, rfl, by decide +kernel, rfl, by decide +kernel, by decide +kernel⟩
abbrev s_InvalidRule___init__ : Stmt := inClass (top 8) 0
abbrev lv_InvalidRule___init__ : Nat := 1
abbrev n_InvalidRule___init__ : List Str := ["self", "value"]
abbrev p_InvalidRule___init__ : List Str := ["self", "value"]
theorem sc_InvalidRule___init__ : FnScope n_InvalidRule___init__ p_InvalidRule___init__ (L2.defScope s_InvalidRule___init__) := ⟨rfl, rfl, rfl, by decide +kernel, rfl, by decide +kernel, by decide +kernel⟩
abbrev s_InvalidWidth___init__ : Stmt := inClass (top 9) 0
abbrev lv_InvalidWidth___init__ : Nat := 1
abbrev n_InvalidWidth___init__ : List Str := ["self", "value"]
abbrev p_InvalidWidth___init__ : List Str := ["self", "value"]
theorem sc_InvalidWidth___init__ : FnScope n_InvalidWidth___init__ p_InvalidWidth___init__ (L2.defScope s_InvalidWidth___init__) := ⟨rfl, rfl, rfl, by decide +kernel, rfl, by decide +kernel, by decide +kernel⟩
abbrev s_InvalidPlace___init__ : Stmt := inClass (top 10) 0
abbrev lv_InvalidPlace___init__ : Nat := 1
abbrev n_InvalidPlace___init__ : List Str := ["self", "value"]
abbrev p_InvalidPlace___init__ : List Str := ["self", "value"]
theorem sc_InvalidPlace___init__ : FnScope n_InvalidPlace___init__ p_InvalidPlace___init__ (L2.defScope s_InvalidPlace___init__) := ⟨rfl, rfl, rfl, by decide +kernel, rfl, by decide +kernel, by decide +kernel⟩
abbrev s_InvalidLine___init__ : Stmt := inClass (top 11) 0
abbrev lv_InvalidLine___init__ : Nat := 1
abbrev n_InvalidLine___init__ : List Str := ["self", "value"]
abbrev p_InvalidLine___init__ : List Str := ["self", "value"]
theorem sc_InvalidLine___init__ : FnScope n_InvalidLine___init__ p_InvalidLine___init__ (L2.defScope s_InvalidLine___init__) := ⟨rfl, rfl, rfl, by decide +kernel, rfl, by decide +kernel, by decide +kernel⟩
abbrev s_NotANamer___init__ : Stmt := inClass (top 12) 0
abbrev lv_NotANamer___init__ : Nat := 1
abbrev n_NotANamer___init__ : List Str := ["self", "value"]
abbrev p_NotANamer___init__ : List Str := ["self", "value"]
theorem sc_NotANamer___init__ : FnScope n_NotANamer___init__ p_NotANamer___init__ (L2.defScope s_NotANamer___init__) := ⟨rfl, rfl, rfl, by decide +kernel, rfl, by decide +kernel, by decide +kernel⟩
abbrev s_NotAShelf___init__ : Stmt := inClass (top 13) 0
abbrev lv_NotAShelf___init__ : Nat := 1
abbrev n_NotAShelf___init__ : List Str := ["self", "value"]
abbrev p_NotAShelf___init__ : List Str := ["self", "value"]
theorem sc_NotAShelf___init__ : FnScope n_NotAShelf___init__ p_NotAShelf___init__ (L2.defScope s_NotAShelf___init__) := ⟨rfl, rfl, rfl, by decide +kernel, rfl, by decide +kernel, by decide +kernel⟩
abbrev s_InvalidRow___init__ : Stmt := inClass (top 14) 0
abbrev lv_InvalidRow___init__ : Nat := 1
abbrev n_InvalidRow___init__ : List Str := ["self", "index"]
abbrev p_InvalidRow___init__ : List Str := ["self", "index"]
theorem sc_InvalidRow___init__ : FnScope n_InvalidRow___init__ p_InvalidRow___init__ (L2.defScope s_InvalidRow___init__) := ⟨rfl, rfl, rfl, by decide +kernel, rfl, by decide +kernel, by decide +kernel⟩
abbrev s_InvalidViews___init__ : Stmt := inClass (top 15) 0
abbrev lv_InvalidViews___init__ : Nat := 1
abbrev n_InvalidViews___init__ : List Str := ["self", "index"]
abbrev p_InvalidViews___init__ : List Str := ["self", "index"]
theorem sc_InvalidViews___init__ : FnScope n_InvalidViews___init__ p_InvalidViews___init__ (L2.defScope s_InvalidViews___init__) := ⟨rfl, rfl, rfl, by decide +kernel, rfl, by decide +kernel, by decide +kernel⟩
abbrev s_InvalidTexts___init__ : Stmt := inClass (top 16) 0
abbrev lv_InvalidTexts___init__ : Nat := 1
abbrev n_InvalidTexts___init__ : List Str := ["self", "index"]
abbrev p_InvalidTexts___init__ : List Str := ["self", "index"]
theorem sc_InvalidTexts___init__ : FnScope n_InvalidTexts___init__ p_InvalidTexts___init__ (L2.defScope s_InvalidTexts___init__) := ⟨rfl, rfl, rfl, by decide +kernel, rfl, by decide +kernel, by decide +kernel⟩
abbrev s_InvalidDeeds___init__ : Stmt := inClass (top 17) 0
abbrev lv_InvalidDeeds___init__ : Nat := 1
abbrev n_InvalidDeeds___init__ : List Str := ["self", "index"]
abbrev p_InvalidDeeds___init__ : List Str := ["self", "index"]
theorem sc_InvalidDeeds___init__ : FnScope n_InvalidDeeds___init__ p_InvalidDeeds___init__ (L2.defScope s_InvalidDeeds___init__) := ⟨rfl, rfl, rfl, by decide +kernel, rfl, by decide +kernel, by decide +kernel⟩
abbrev s_UnknownName___init__ : Stmt := inClass (top 20) 0
abbrev lv_UnknownName___init__ : Nat := 1
abbrev n_UnknownName___init__ : List Str := ["self", "value"]
abbrev p_UnknownName___init__ : List Str := ["self", "value"]
theorem sc_UnknownName___init__ : FnScope n_UnknownName___init__ p_UnknownName___init__ (L2.defScope s_UnknownName___init__) := ⟨rfl, rfl, rfl, by decide +kernel, rfl, by decide +kernel, by decide +kernel⟩
abbrev s_TooMany___init__ : Stmt := inClass (top 21) 0
abbrev lv_TooMany___init__ : Nat := 1
abbrev n_TooMany___init__ : List Str := ["self", "limit"]
abbrev p_TooMany___init__ : List Str := ["self", "limit"]
theorem sc_TooMany___init__ : FnScope n_TooMany___init__ p_TooMany___init__ (L2.defScope s_TooMany___init__) := ⟨rfl, rfl, rfl, by decide +kernel, rfl, by decide +kernel, by decide +kernel⟩
abbrev s__law_pot : Stmt := top 31
abbrev lv__law_pot : Nat := 1
abbrev n__law_pot : List Str := ["_law_script", "_law_k", "_law_own", "_law_mixed", "_law_entry"]
abbrev p__law_pot : List Str := ["_law_script", "_law_k"]
theorem sc__law_pot : FnScope n__law_pot p__law_pot (L2.defScope s__law_pot) := ⟨rfl, rfl, rfl, by decide +kernel, rfl, by decide +kernel, by decide +kernel⟩
abbrev s__law_ladle : Stmt := top 32
abbrev lv__law_ladle : Nat := 1
abbrev n__law_ladle : List Str := ["_law_pot_here", "_law_many", "_law_digit"]
abbrev p__law_ladle : List Str := ["_law_pot_here", "_law_many"]
theorem sc__law_ladle : FnScope n__law_ladle p__law_ladle (L2.defScope s__law_ladle) := ⟨rfl, rfl, rfl, by decide +kernel, rfl, by decide +kernel, by decide +kernel⟩
abbrev s__law_one_of : Stmt := top 33
abbrev lv__law_one_of : Nat := 2
abbrev n__law_one_of : List Str := ["_law_pot_here", "_law_some"]
abbrev p__law_one_of : List Str := ["_law_pot_here", "_law_some"]
theorem sc__law_one_of : FnScope n__law_one_of p__law_one_of (L2.defScope s__law_one_of) := ⟨rfl, rfl, rfl, by decide +kernel, rfl, by decide +kernel, by decide +kernel⟩
abbrev s__law_value_errors : Stmt := top 34
abbrev lv__law_value_errors : Nat := 3
abbrev n__law_value_errors : List Str := ["_law_stuff", "_law_one", "_law_two"]
abbrev p__law_value_errors : List Str := ["_law_stuff"]
theorem st__law_value_errors (d0 : D) : startD n__law_value_errors [d0] = [some d0, none, none] := rfl
theorem sc__law_value_errors : FnScope n__law_value_errors p__law_value_errors (L2.defScope s__law_value_errors) := ⟨rfl, rfl, rfl, by decide +kernel, rfl, by decide +kernel, by decide +kernel⟩
abbrev s__law_index_errors : Stmt := top 35
abbrev lv__law_index_errors : Nat := 3
abbrev n__law_index_errors : List Str := ["_law_stuff", "_law_one", "_law_two"]
abbrev p__law_index_errors : List Str := ["_law_stuff"]
theorem st__law_index_errors (d0 : D) : startD n__law_index_errors [d0] = [some d0, none, none] := rfl
theorem sc__law_index_errors : FnScope n__law_index_errors p__law_index_errors (L2.defScope s__law_index_errors) := ⟨rfl, rfl, rfl, by decide +kernel, rfl, by decide +kernel, by decide +kernel⟩
abbrev s__law_instances : Stmt := top 36
abbrev lv__law_instances : Nat := 3
abbrev n__law_instances : List Str := ["_law_e", "_law_seen"]
abbrev p__law_instances : List Str := ["_law_e"]
theorem st__law_instances (d0 : D) : startD n__law_instances [d0] = [some d0, none] := rfl
theorem sc__law_instances : FnScope n__law_instances p__law_instances (L2.defScope s__law_instances) := ⟨rfl, rfl, rfl, by decide +kernel, rfl, by decide +kernel, by decide +kernel⟩
abbrev s__law_bases : Stmt := top 37
abbrev lv__law_bases : Nat := 1
abbrev n__law_bases : List Str := ["_law_e", "_law_seen", "_law_k"]
abbrev p__law_bases : List Str := ["_law_e"]
theorem st__law_bases (d0 : D) : startD n__law_bases [d0] = [some d0, none, none] := rfl
theorem sc__law_bases : FnScope n__law_bases p__law_bases (L2.defScope s__law_bases) := ⟨rfl, rfl, rfl, by decide +kernel, rfl, by decide +kernel, by decide +kernel⟩
abbrev s__law_right : Stmt := top 38
abbrev lv__law_right : Nat := 4
abbrev n__law_right : List Str := ["_law_pot_here", "_law_stuff", "_law_values", "_law_spots", "_law_named", "_law_states", "_law_limits_here", "_law_held", "_law_group", "_law_due", "_law_told", "_law_e"]
abbrev p__law_right : List Str := ["_law_pot_here"]
theorem st__law_right (d0 : D) : startD n__law_right [d0] = [some d0, none, none, none, none, none, none, none, none, none, none, none] := rfl
theorem sc__law_right : FnScope n__law_right p__law_right (L2.defScope s__law_right) := ⟨rfl, rfl, rfl, by decide +kernel, rfl, by decide +kernel, by decide +kernel⟩
abbrev s_law : Stmt := top 39
abbrev lv_law : Nat := 5
abbrev n_law : List Str := ["_law_script", "_law_k"]
abbrev p_law : List Str := ["_law_script"]
theorem st_law (d0 : D) : startD n_law [d0] = [some d0, none] := rfl
theorem sc_law : FnScope n_law p_law (L2.defScope s_law) := ⟨rfl, rfl, rfl, by decide +kernel, rfl, by decide +kernel, by decide +kernel⟩
structure Tx (K : PySem.W.Frag) (mg : Str → Option Value) where
  n_ArithmeticError : mg "ArithmeticError" = none
  n_LookupError : mg "LookupError" = none
  n_ValueError : mg "ValueError" = none
  n_abs : mg "abs" = none
  n_all : mg "all" = none
  n_divmod : mg "divmod" = none
  n_int : mg "int" = none
  n_isinstance : mg "isinstance" = none
  n_len : mg "len" = none
  n_max : mg "max" = none
  n_min : mg "min" = none
  n_range : mg "range" = none
  n_repr : mg "repr" = none
  k_MOST_SIGNS : ∃ u, mg "MOST_SIGNS" = some u ∧ RelV (.int 40) u
  k_MOST_MARK : ∃ u, mg "MOST_MARK" = some u ∧ RelV (.int 3) u
  k_MOST_ROW : ∃ u, mg "MOST_ROW" = some u ∧ RelV (.int 4) u
  k_MOST_VIEWS : ∃ u, mg "MOST_VIEWS" = some u ∧ RelV (.int 4) u
  k_MOST_TEXT : ∃ u, mg "MOST_TEXT" = some u ∧ RelV (.int 200) u
  k_MOST_LENGTH : ∃ u, mg "MOST_LENGTH" = some u ∧ RelV (.int 500) u
  k_MOST_LISTED : ∃ u, mg "MOST_LISTED" = some u ∧ RelV (.int 6) u
  k_MOST_SHELVED : ∃ u, mg "MOST_SHELVED" = some u ∧ RelV (.int 20) u
  C_InputError : Addr
  m_InputError : mg "InputError" = some (.ref C_InputError)
  C_StateError : Addr
  m_StateError : mg "StateError" = some (.ref C_StateError)
  C_SizeError : Addr
  m_SizeError : mg "SizeError" = some (.ref C_SizeError)
  C_InvalidNumber : Addr
  m_InvalidNumber : mg "InvalidNumber" = some (.ref C_InvalidNumber)
  C_InvalidMark : Addr
  m_InvalidMark : mg "InvalidMark" = some (.ref C_InvalidMark)
  C_InvalidText : Addr
  m_InvalidText : mg "InvalidText" = some (.ref C_InvalidText)
  C_InvalidLength : Addr
  m_InvalidLength : mg "InvalidLength" = some (.ref C_InvalidLength)
  C_InvalidRule : Addr
  m_InvalidRule : mg "InvalidRule" = some (.ref C_InvalidRule)
  C_InvalidWidth : Addr
  m_InvalidWidth : mg "InvalidWidth" = some (.ref C_InvalidWidth)
  C_InvalidPlace : Addr
  m_InvalidPlace : mg "InvalidPlace" = some (.ref C_InvalidPlace)
  C_InvalidLine : Addr
  m_InvalidLine : mg "InvalidLine" = some (.ref C_InvalidLine)
  C_NotANamer : Addr
  m_NotANamer : mg "NotANamer" = some (.ref C_NotANamer)
  C_NotAShelf : Addr
  m_NotAShelf : mg "NotAShelf" = some (.ref C_NotAShelf)
  C_InvalidRow : Addr
  m_InvalidRow : mg "InvalidRow" = some (.ref C_InvalidRow)
  C_InvalidViews : Addr
  m_InvalidViews : mg "InvalidViews" = some (.ref C_InvalidViews)
  C_InvalidTexts : Addr
  m_InvalidTexts : mg "InvalidTexts" = some (.ref C_InvalidTexts)
  C_InvalidDeeds : Addr
  m_InvalidDeeds : mg "InvalidDeeds" = some (.ref C_InvalidDeeds)
  C_NothingToUndo : Addr
  m_NothingToUndo : mg "NothingToUndo" = some (.ref C_NothingToUndo)
  C_Busy : Addr
  m_Busy : mg "Busy" = some (.ref C_Busy)
  C_UnknownName : Addr
  m_UnknownName : mg "UnknownName" = some (.ref C_UnknownName)
  C_TooMany : Addr
  m_TooMany : mg "TooMany" = some (.ref C_TooMany)
  o_InvalidNumber : L2.OexC K C_InvalidNumber
  na_InvalidNumber_value : PySem.W.findIn K (.ref C_InvalidNumber) "value" = some none
  f_InvalidNumber___init__ : Addr
  d_InvalidNumber___init__ : FuncData
  F_InvalidNumber___init__ : L2.Fun K "__init__" "InvalidNumber.__init__" s_InvalidNumber___init__ f_InvalidNumber___init__ d_InvalidNumber___init__
  b_InvalidNumber___init__ : Binds K d_InvalidNumber___init__ p_InvalidNumber___init__ []
  i_InvalidNumber : PySem.W.findIn K (.ref C_InvalidNumber) "__init__" = some (some (.ref f_InvalidNumber___init__))
  j_InvalidNumber : PySem.W.typeIn K (.ref f_InvalidNumber___init__) = some (.type "function")
  kb_InvalidNumber___init___0 : KBn K d_InvalidNumber___init__ p_InvalidNumber___init__ 1 ["value"] (fun us ws => us ++ pk0 ws) (fun us ws => us ++ pk0 ws)
  o_InvalidMark : L2.OexC K C_InvalidMark
  na_InvalidMark_value : PySem.W.findIn K (.ref C_InvalidMark) "value" = some none
  f_InvalidMark___init__ : Addr
  d_InvalidMark___init__ : FuncData
  F_InvalidMark___init__ : L2.Fun K "__init__" "InvalidMark.__init__" s_InvalidMark___init__ f_InvalidMark___init__ d_InvalidMark___init__
  b_InvalidMark___init__ : Binds K d_InvalidMark___init__ p_InvalidMark___init__ []
  i_InvalidMark : PySem.W.findIn K (.ref C_InvalidMark) "__init__" = some (some (.ref f_InvalidMark___init__))
  j_InvalidMark : PySem.W.typeIn K (.ref f_InvalidMark___init__) = some (.type "function")
  kb_InvalidMark___init___0 : KBn K d_InvalidMark___init__ p_InvalidMark___init__ 1 ["value"] (fun us ws => us ++ pk0 ws) (fun us ws => us ++ pk0 ws)
  o_InvalidText : L2.OexC K C_InvalidText
  na_InvalidText_value : PySem.W.findIn K (.ref C_InvalidText) "value" = some none
  f_InvalidText___init__ : Addr
  d_InvalidText___init__ : FuncData
  F_InvalidText___init__ : L2.Fun K "__init__" "InvalidText.__init__" s_InvalidText___init__ f_InvalidText___init__ d_InvalidText___init__
  b_InvalidText___init__ : Binds K d_InvalidText___init__ p_InvalidText___init__ []
  i_InvalidText : PySem.W.findIn K (.ref C_InvalidText) "__init__" = some (some (.ref f_InvalidText___init__))
  j_InvalidText : PySem.W.typeIn K (.ref f_InvalidText___init__) = some (.type "function")
  kb_InvalidText___init___0 : KBn K d_InvalidText___init__ p_InvalidText___init__ 1 ["value"] (fun us ws => us ++ pk0 ws) (fun us ws => us ++ pk0 ws)
  o_InvalidLength : L2.OexC K C_InvalidLength
  na_InvalidLength_value : PySem.W.findIn K (.ref C_InvalidLength) "value" = some none
  f_InvalidLength___init__ : Addr
  d_InvalidLength___init__ : FuncData
  F_InvalidLength___init__ : L2.Fun K "__init__" "InvalidLength.__init__" s_InvalidLength___init__ f_InvalidLength___init__ d_InvalidLength___init__
  b_InvalidLength___init__ : Binds K d_InvalidLength___init__ p_InvalidLength___init__ []
  i_InvalidLength : PySem.W.findIn K (.ref C_InvalidLength) "__init__" = some (some (.ref f_InvalidLength___init__))
  j_InvalidLength : PySem.W.typeIn K (.ref f_InvalidLength___init__) = some (.type "function")
  kb_InvalidLength___init___0 : KBn K d_InvalidLength___init__ p_InvalidLength___init__ 1 ["value"] (fun us ws => us ++ pk0 ws) (fun us ws => us ++ pk0 ws)
  o_InvalidRule : L2.OexC K C_InvalidRule
  na_InvalidRule_value : PySem.W.findIn K (.ref C_InvalidRule) "value" = some none
  f_InvalidRule___init__ : Addr
  d_InvalidRule___init__ : FuncData
  F_InvalidRule___init__ : L2.Fun K "__init__" "InvalidRule.__init__" s_InvalidRule___init__ f_InvalidRule___init__ d_InvalidRule___init__
  b_InvalidRule___init__ : Binds K d_InvalidRule___init__ p_InvalidRule___init__ []
  i_InvalidRule : PySem.W.findIn K (.ref C_InvalidRule) "__init__" = some (some (.ref f_InvalidRule___init__))
  j_InvalidRule : PySem.W.typeIn K (.ref f_InvalidRule___init__) = some (.type "function")
  kb_InvalidRule___init___0 : KBn K d_InvalidRule___init__ p_InvalidRule___init__ 1 ["value"] (fun us ws => us ++ pk0 ws) (fun us ws => us ++ pk0 ws)
  o_InvalidWidth : L2.OexC K C_InvalidWidth
  na_InvalidWidth_value : PySem.W.findIn K (.ref C_InvalidWidth) "value" = some none
  f_InvalidWidth___init__ : Addr
  d_InvalidWidth___init__ : FuncData
  F_InvalidWidth___init__ : L2.Fun K "__init__" "InvalidWidth.__init__" s_InvalidWidth___init__ f_InvalidWidth___init__ d_InvalidWidth___init__
  b_InvalidWidth___init__ : Binds K d_InvalidWidth___init__ p_InvalidWidth___init__ []
  i_InvalidWidth : PySem.W.findIn K (.ref C_InvalidWidth) "__init__" = some (some (.ref f_InvalidWidth___init__))
  j_InvalidWidth : PySem.W.typeIn K (.ref f_InvalidWidth___init__) = some (.type "function")
  kb_InvalidWidth___init___0 : KBn K d_InvalidWidth___init__ p_InvalidWidth___init__ 1 ["value"] (fun us ws => us ++ pk0 ws) (fun us ws => us ++ pk0 ws)
  o_InvalidPlace : L2.OexC K C_InvalidPlace
  na_InvalidPlace_value : PySem.W.findIn K (.ref C_InvalidPlace) "value" = some none
  f_InvalidPlace___init__ : Addr
  d_InvalidPlace___init__ : FuncData
  F_InvalidPlace___init__ : L2.Fun K "__init__" "InvalidPlace.__init__" s_InvalidPlace___init__ f_InvalidPlace___init__ d_InvalidPlace___init__
  b_InvalidPlace___init__ : Binds K d_InvalidPlace___init__ p_InvalidPlace___init__ []
  i_InvalidPlace : PySem.W.findIn K (.ref C_InvalidPlace) "__init__" = some (some (.ref f_InvalidPlace___init__))
  j_InvalidPlace : PySem.W.typeIn K (.ref f_InvalidPlace___init__) = some (.type "function")
  kb_InvalidPlace___init___0 : KBn K d_InvalidPlace___init__ p_InvalidPlace___init__ 1 ["value"] (fun us ws => us ++ pk0 ws) (fun us ws => us ++ pk0 ws)
  o_InvalidLine : L2.OexC K C_InvalidLine
  na_InvalidLine_value : PySem.W.findIn K (.ref C_InvalidLine) "value" = some none
  f_InvalidLine___init__ : Addr
  d_InvalidLine___init__ : FuncData
  F_InvalidLine___init__ : L2.Fun K "__init__" "InvalidLine.__init__" s_InvalidLine___init__ f_InvalidLine___init__ d_InvalidLine___init__
  b_InvalidLine___init__ : Binds K d_InvalidLine___init__ p_InvalidLine___init__ []
  i_InvalidLine : PySem.W.findIn K (.ref C_InvalidLine) "__init__" = some (some (.ref f_InvalidLine___init__))
  j_InvalidLine : PySem.W.typeIn K (.ref f_InvalidLine___init__) = some (.type "function")
  kb_InvalidLine___init___0 : KBn K d_InvalidLine___init__ p_InvalidLine___init__ 1 ["value"] (fun us ws => us ++ pk0 ws) (fun us ws => us ++ pk0 ws)
  o_NotANamer : L2.OexC K C_NotANamer
  na_NotANamer_value : PySem.W.findIn K (.ref C_NotANamer) "value" = some none
  f_NotANamer___init__ : Addr
  d_NotANamer___init__ : FuncData
  F_NotANamer___init__ : L2.Fun K "__init__" "NotANamer.__init__" s_NotANamer___init__ f_NotANamer___init__ d_NotANamer___init__
  b_NotANamer___init__ : Binds K d_NotANamer___init__ p_NotANamer___init__ []
  i_NotANamer : PySem.W.findIn K (.ref C_NotANamer) "__init__" = some (some (.ref f_NotANamer___init__))
  j_NotANamer : PySem.W.typeIn K (.ref f_NotANamer___init__) = some (.type "function")
  kb_NotANamer___init___0 : KBn K d_NotANamer___init__ p_NotANamer___init__ 1 ["value"] (fun us ws => us ++ pk0 ws) (fun us ws => us ++ pk0 ws)
  o_NotAShelf : L2.OexC K C_NotAShelf
  na_NotAShelf_value : PySem.W.findIn K (.ref C_NotAShelf) "value" = some none
  f_NotAShelf___init__ : Addr
  d_NotAShelf___init__ : FuncData
  F_NotAShelf___init__ : L2.Fun K "__init__" "NotAShelf.__init__" s_NotAShelf___init__ f_NotAShelf___init__ d_NotAShelf___init__
  b_NotAShelf___init__ : Binds K d_NotAShelf___init__ p_NotAShelf___init__ []
  i_NotAShelf : PySem.W.findIn K (.ref C_NotAShelf) "__init__" = some (some (.ref f_NotAShelf___init__))
  j_NotAShelf : PySem.W.typeIn K (.ref f_NotAShelf___init__) = some (.type "function")
  kb_NotAShelf___init___0 : KBn K d_NotAShelf___init__ p_NotAShelf___init__ 1 ["value"] (fun us ws => us ++ pk0 ws) (fun us ws => us ++ pk0 ws)
  o_InvalidRow : L2.OexC K C_InvalidRow
  na_InvalidRow_index : PySem.W.findIn K (.ref C_InvalidRow) "index" = some none
  f_InvalidRow___init__ : Addr
  d_InvalidRow___init__ : FuncData
  F_InvalidRow___init__ : L2.Fun K "__init__" "InvalidRow.__init__" s_InvalidRow___init__ f_InvalidRow___init__ d_InvalidRow___init__
  b_InvalidRow___init__ : Binds K d_InvalidRow___init__ p_InvalidRow___init__ []
  i_InvalidRow : PySem.W.findIn K (.ref C_InvalidRow) "__init__" = some (some (.ref f_InvalidRow___init__))
  j_InvalidRow : PySem.W.typeIn K (.ref f_InvalidRow___init__) = some (.type "function")
  kb_InvalidRow___init___0 : KBn K d_InvalidRow___init__ p_InvalidRow___init__ 1 ["index"] (fun us ws => us ++ pk0 ws) (fun us ws => us ++ pk0 ws)
  o_InvalidViews : L2.OexC K C_InvalidViews
  na_InvalidViews_index : PySem.W.findIn K (.ref C_InvalidViews) "index" = some none
  f_InvalidViews___init__ : Addr
  d_InvalidViews___init__ : FuncData
  F_InvalidViews___init__ : L2.Fun K "__init__" "InvalidViews.__init__" s_InvalidViews___init__ f_InvalidViews___init__ d_InvalidViews___init__
  b_InvalidViews___init__ : Binds K d_InvalidViews___init__ p_InvalidViews___init__ []
  i_InvalidViews : PySem.W.findIn K (.ref C_InvalidViews) "__init__" = some (some (.ref f_InvalidViews___init__))
  j_InvalidViews : PySem.W.typeIn K (.ref f_InvalidViews___init__) = some (.type "function")
  kb_InvalidViews___init___0 : KBn K d_InvalidViews___init__ p_InvalidViews___init__ 1 ["index"] (fun us ws => us ++ pk0 ws) (fun us ws => us ++ pk0 ws)
  o_InvalidTexts : L2.OexC K C_InvalidTexts
  na_InvalidTexts_index : PySem.W.findIn K (.ref C_InvalidTexts) "index" = some none
  f_InvalidTexts___init__ : Addr
  d_InvalidTexts___init__ : FuncData
  F_InvalidTexts___init__ : L2.Fun K "__init__" "InvalidTexts.__init__" s_InvalidTexts___init__ f_InvalidTexts___init__ d_InvalidTexts___init__
  b_InvalidTexts___init__ : Binds K d_InvalidTexts___init__ p_InvalidTexts___init__ []
  i_InvalidTexts : PySem.W.findIn K (.ref C_InvalidTexts) "__init__" = some (some (.ref f_InvalidTexts___init__))
  j_InvalidTexts : PySem.W.typeIn K (.ref f_InvalidTexts___init__) = some (.type "function")
  kb_InvalidTexts___init___0 : KBn K d_InvalidTexts___init__ p_InvalidTexts___init__ 1 ["index"] (fun us ws => us ++ pk0 ws) (fun us ws => us ++ pk0 ws)
  o_InvalidDeeds : L2.OexC K C_InvalidDeeds
  na_InvalidDeeds_index : PySem.W.findIn K (.ref C_InvalidDeeds) "index" = some none
  f_InvalidDeeds___init__ : Addr
  d_InvalidDeeds___init__ : FuncData
  F_InvalidDeeds___init__ : L2.Fun K "__init__" "InvalidDeeds.__init__" s_InvalidDeeds___init__ f_InvalidDeeds___init__ d_InvalidDeeds___init__
  b_InvalidDeeds___init__ : Binds K d_InvalidDeeds___init__ p_InvalidDeeds___init__ []
  i_InvalidDeeds : PySem.W.findIn K (.ref C_InvalidDeeds) "__init__" = some (some (.ref f_InvalidDeeds___init__))
  j_InvalidDeeds : PySem.W.typeIn K (.ref f_InvalidDeeds___init__) = some (.type "function")
  kb_InvalidDeeds___init___0 : KBn K d_InvalidDeeds___init__ p_InvalidDeeds___init__ 1 ["index"] (fun us ws => us ++ pk0 ws) (fun us ws => us ++ pk0 ws)
  o_UnknownName : V.OexG K C_UnknownName "LookupError" "LookupError.__new__" "LookupError.__init__" V.tlLookup
  na_UnknownName_value : PySem.W.findIn K (.ref C_UnknownName) "value" = some none
  f_UnknownName___init__ : Addr
  d_UnknownName___init__ : FuncData
  F_UnknownName___init__ : L2.Fun K "__init__" "UnknownName.__init__" s_UnknownName___init__ f_UnknownName___init__ d_UnknownName___init__
  b_UnknownName___init__ : Binds K d_UnknownName___init__ p_UnknownName___init__ []
  i_UnknownName : PySem.W.findIn K (.ref C_UnknownName) "__init__" = some (some (.ref f_UnknownName___init__))
  j_UnknownName : PySem.W.typeIn K (.ref f_UnknownName___init__) = some (.type "function")
  kb_UnknownName___init___0 : KBn K d_UnknownName___init__ p_UnknownName___init__ 1 ["value"] (fun us ws => us ++ pk0 ws) (fun us ws => us ++ pk0 ws)
  o_TooMany : V.OexG K C_TooMany "ArithmeticError" "ArithmeticError.__new__" "ArithmeticError.__init__" V.tlArith
  na_TooMany_limit : PySem.W.findIn K (.ref C_TooMany) "limit" = some none
  f_TooMany___init__ : Addr
  d_TooMany___init__ : FuncData
  F_TooMany___init__ : L2.Fun K "__init__" "TooMany.__init__" s_TooMany___init__ f_TooMany___init__ d_TooMany___init__
  b_TooMany___init__ : Binds K d_TooMany___init__ p_TooMany___init__ []
  i_TooMany : PySem.W.findIn K (.ref C_TooMany) "__init__" = some (some (.ref f_TooMany___init__))
  j_TooMany : PySem.W.typeIn K (.ref f_TooMany___init__) = some (.type "function")
  kb_TooMany___init___0 : KBn K d_TooMany___init__ p_TooMany___init__ 1 ["limit"] (fun us ws => us ++ pk0 ws) (fun us ws => us ++ pk0 ws)
  q_NothingToUndo : PySem.W.excIn K C_NothingToUndo V.tlLookup "LookupError.__new__" = true
  kq_NothingToUndo : PySem.W.keepIn K (.ref C_NothingToUndo) = true
  bq_NothingToUndo : PySem.W.subIn K (.ref C_NothingToUndo) (.type "BaseException") = some true
  tq_NothingToUndo : PySem.W.typeIn K (.ref C_NothingToUndo) = some (.type "type")
  q_Busy : PySem.W.excIn K C_Busy V.tlLookup "LookupError.__new__" = true
  kq_Busy : PySem.W.keepIn K (.ref C_Busy) = true
  bq_Busy : PySem.W.subIn K (.ref C_Busy) (.type "BaseException") = some true
  tq_Busy : PySem.W.typeIn K (.ref C_Busy) = some (.type "type")
  xf_InvalidNumber : XfC K C_InvalidNumber
  ex_InvalidNumber : L2.ExcC K C_InvalidNumber
  kr_InvalidNumber_0 : PySem.W.kitOne K (.ref C_InvalidNumber) (.ref C_InvalidNumber) = some true
  kr_InvalidNumber_1 : PySem.W.kitOne K (.ref C_InvalidNumber) (.ref C_InvalidMark) = some false
  kr_InvalidNumber_2 : PySem.W.kitOne K (.ref C_InvalidNumber) (.ref C_InvalidText) = some false
  kr_InvalidNumber_3 : PySem.W.kitOne K (.ref C_InvalidNumber) (.ref C_InvalidLength) = some false
  kr_InvalidNumber_4 : PySem.W.kitOne K (.ref C_InvalidNumber) (.ref C_InvalidRule) = some false
  kr_InvalidNumber_5 : PySem.W.kitOne K (.ref C_InvalidNumber) (.ref C_InvalidWidth) = some false
  kr_InvalidNumber_6 : PySem.W.kitOne K (.ref C_InvalidNumber) (.ref C_InvalidPlace) = some false
  kr_InvalidNumber_7 : PySem.W.kitOne K (.ref C_InvalidNumber) (.ref C_InvalidLine) = some false
  kr_InvalidNumber_8 : PySem.W.kitOne K (.ref C_InvalidNumber) (.ref C_NotANamer) = some false
  kr_InvalidNumber_9 : PySem.W.kitOne K (.ref C_InvalidNumber) (.ref C_NotAShelf) = some false
  kr_InvalidNumber_10 : PySem.W.kitOne K (.ref C_InvalidNumber) (.ref C_InvalidRow) = some false
  kr_InvalidNumber_11 : PySem.W.kitOne K (.ref C_InvalidNumber) (.ref C_InvalidViews) = some false
  kr_InvalidNumber_12 : PySem.W.kitOne K (.ref C_InvalidNumber) (.ref C_InvalidTexts) = some false
  kr_InvalidNumber_13 : PySem.W.kitOne K (.ref C_InvalidNumber) (.ref C_InvalidDeeds) = some false
  kr_InvalidNumber_14 : PySem.W.kitOne K (.ref C_InvalidNumber) (.ref C_NothingToUndo) = some false
  kr_InvalidNumber_15 : PySem.W.kitOne K (.ref C_InvalidNumber) (.ref C_Busy) = some false
  kr_InvalidNumber_16 : PySem.W.kitOne K (.ref C_InvalidNumber) (.ref C_UnknownName) = some false
  kr_InvalidNumber_17 : PySem.W.kitOne K (.ref C_InvalidNumber) (.ref C_TooMany) = some false
  kr_InvalidNumber_18 : PySem.W.kitOne K (.ref C_InvalidNumber) (.ref C_InputError) = some true
  kr_InvalidNumber_19 : PySem.W.kitOne K (.ref C_InvalidNumber) (.ref C_StateError) = some false
  kr_InvalidNumber_20 : PySem.W.kitOne K (.ref C_InvalidNumber) (.ref C_SizeError) = some false
  kr_InvalidNumber_21 : PySem.W.kitOne K (.ref C_InvalidNumber) (.type "ValueError") = some true
  kr_InvalidNumber_22 : PySem.W.kitOne K (.ref C_InvalidNumber) (.type "LookupError") = some false
  kr_InvalidNumber_23 : PySem.W.kitOne K (.ref C_InvalidNumber) (.type "ArithmeticError") = some false
  xf_InvalidMark : XfC K C_InvalidMark
  ex_InvalidMark : L2.ExcC K C_InvalidMark
  kr_InvalidMark_0 : PySem.W.kitOne K (.ref C_InvalidMark) (.ref C_InvalidNumber) = some false
  kr_InvalidMark_1 : PySem.W.kitOne K (.ref C_InvalidMark) (.ref C_InvalidMark) = some true
  kr_InvalidMark_2 : PySem.W.kitOne K (.ref C_InvalidMark) (.ref C_InvalidText) = some false
  kr_InvalidMark_3 : PySem.W.kitOne K (.ref C_InvalidMark) (.ref C_InvalidLength) = some false
  kr_InvalidMark_4 : PySem.W.kitOne K (.ref C_InvalidMark) (.ref C_InvalidRule) = some false
  kr_InvalidMark_5 : PySem.W.kitOne K (.ref C_InvalidMark) (.ref C_InvalidWidth) = some false
  kr_InvalidMark_6 : PySem.W.kitOne K (.ref C_InvalidMark) (.ref C_InvalidPlace) = some false
  kr_InvalidMark_7 : PySem.W.kitOne K (.ref C_InvalidMark) (.ref C_InvalidLine) = some false
  kr_InvalidMark_8 : PySem.W.kitOne K (.ref C_InvalidMark) (.ref C_NotANamer) = some false
  kr_InvalidMark_9 : PySem.W.kitOne K (.ref C_InvalidMark) (.ref C_NotAShelf) = some false
  kr_InvalidMark_10 : PySem.W.kitOne K (.ref C_InvalidMark) (.ref C_InvalidRow) = some false
  kr_InvalidMark_11 : PySem.W.kitOne K (.ref C_InvalidMark) (.ref C_InvalidViews) = some false
  kr_InvalidMark_12 : PySem.W.kitOne K (.ref C_InvalidMark) (.ref C_InvalidTexts) = some false
  kr_InvalidMark_13 : PySem.W.kitOne K (.ref C_InvalidMark) (.ref C_InvalidDeeds) = some false
  kr_InvalidMark_14 : PySem.W.kitOne K (.ref C_InvalidMark) (.ref C_NothingToUndo) = some false
  kr_InvalidMark_15 : PySem.W.kitOne K (.ref C_InvalidMark) (.ref C_Busy) = some false
  kr_InvalidMark_16 : PySem.W.kitOne K (.ref C_InvalidMark) (.ref C_UnknownName) = some false
  kr_InvalidMark_17 : PySem.W.kitOne K (.ref C_InvalidMark) (.ref C_TooMany) = some false
  kr_InvalidMark_18 : PySem.W.kitOne K (.ref C_InvalidMark) (.ref C_InputError) = some true
  kr_InvalidMark_19 : PySem.W.kitOne K (.ref C_InvalidMark) (.ref C_StateError) = some false
  kr_InvalidMark_20 : PySem.W.kitOne K (.ref C_InvalidMark) (.ref C_SizeError) = some false
  kr_InvalidMark_21 : PySem.W.kitOne K (.ref C_InvalidMark) (.type "ValueError") = some true
  kr_InvalidMark_22 : PySem.W.kitOne K (.ref C_InvalidMark) (.type "LookupError") = some false
  kr_InvalidMark_23 : PySem.W.kitOne K (.ref C_InvalidMark) (.type "ArithmeticError") = some false
  xf_InvalidText : XfC K C_InvalidText
  ex_InvalidText : L2.ExcC K C_InvalidText
  kr_InvalidText_0 : PySem.W.kitOne K (.ref C_InvalidText) (.ref C_InvalidNumber) = some false
  kr_InvalidText_1 : PySem.W.kitOne K (.ref C_InvalidText) (.ref C_InvalidMark) = some false
  kr_InvalidText_2 : PySem.W.kitOne K (.ref C_InvalidText) (.ref C_InvalidText) = some true
  kr_InvalidText_3 : PySem.W.kitOne K (.ref C_InvalidText) (.ref C_InvalidLength) = some false
  kr_InvalidText_4 : PySem.W.kitOne K (.ref C_InvalidText) (.ref C_InvalidRule) = some false
  kr_InvalidText_5 : PySem.W.kitOne K (.ref C_InvalidText) (.ref C_InvalidWidth) = some false
  kr_InvalidText_6 : PySem.W.kitOne K (.ref C_InvalidText) (.ref C_InvalidPlace) = some false
  kr_InvalidText_7 : PySem.W.kitOne K (.ref C_InvalidText) (.ref C_InvalidLine) = some false
  kr_InvalidText_8 : PySem.W.kitOne K (.ref C_InvalidText) (.ref C_NotANamer) = some false
  kr_InvalidText_9 : PySem.W.kitOne K (.ref C_InvalidText) (.ref C_NotAShelf) = some false
  kr_InvalidText_10 : PySem.W.kitOne K (.ref C_InvalidText) (.ref C_InvalidRow) = some false
  kr_InvalidText_11 : PySem.W.kitOne K (.ref C_InvalidText) (.ref C_InvalidViews) = some false
  kr_InvalidText_12 : PySem.W.kitOne K (.ref C_InvalidText) (.ref C_InvalidTexts) = some false
  kr_InvalidText_13 : PySem.W.kitOne K (.ref C_InvalidText) (.ref C_InvalidDeeds) = some false
  kr_InvalidText_14 : PySem.W.kitOne K (.ref C_InvalidText) (.ref C_NothingToUndo) = some false
  kr_InvalidText_15 : PySem.W.kitOne K (.ref C_InvalidText) (.ref C_Busy) = some false
  kr_InvalidText_16 : PySem.W.kitOne K (.ref C_InvalidText) (.ref C_UnknownName) = some false
  kr_InvalidText_17 : PySem.W.kitOne K (.ref C_InvalidText) (.ref C_TooMany) = some false
  kr_InvalidText_18 : PySem.W.kitOne K (.ref C_InvalidText) (.ref C_InputError) = some true
  kr_InvalidText_19 : PySem.W.kitOne K (.ref C_InvalidText) (.ref C_StateError) = some false
  kr_InvalidText_20 : PySem.W.kitOne K (.ref C_InvalidText) (.ref C_SizeError) = some false
  kr_InvalidText_21 : PySem.W.kitOne K (.ref C_InvalidText) (.type "ValueError") = some true
  kr_InvalidText_22 : PySem.W.kitOne K (.ref C_InvalidText) (.type "LookupError") = some false
  kr_InvalidText_23 : PySem.W.kitOne K (.ref C_InvalidText) (.type "ArithmeticError") = some false
  xf_InvalidLength : XfC K C_InvalidLength
  ex_InvalidLength : L2.ExcC K C_InvalidLength
  kr_InvalidLength_0 : PySem.W.kitOne K (.ref C_InvalidLength) (.ref C_InvalidNumber) = some false
  kr_InvalidLength_1 : PySem.W.kitOne K (.ref C_InvalidLength) (.ref C_InvalidMark) = some false
  kr_InvalidLength_2 : PySem.W.kitOne K (.ref C_InvalidLength) (.ref C_InvalidText) = some false
  kr_InvalidLength_3 : PySem.W.kitOne K (.ref C_InvalidLength) (.ref C_InvalidLength) = some true
  kr_InvalidLength_4 : PySem.W.kitOne K (.ref C_InvalidLength) (.ref C_InvalidRule) = some false
  kr_InvalidLength_5 : PySem.W.kitOne K (.ref C_InvalidLength) (.ref C_InvalidWidth) = some false
  kr_InvalidLength_6 : PySem.W.kitOne K (.ref C_InvalidLength) (.ref C_InvalidPlace) = some false
  kr_InvalidLength_7 : PySem.W.kitOne K (.ref C_InvalidLength) (.ref C_InvalidLine) = some false
  kr_InvalidLength_8 : PySem.W.kitOne K (.ref C_InvalidLength) (.ref C_NotANamer) = some false
  kr_InvalidLength_9 : PySem.W.kitOne K (.ref C_InvalidLength) (.ref C_NotAShelf) = some false
  kr_InvalidLength_10 : PySem.W.kitOne K (.ref C_InvalidLength) (.ref C_InvalidRow) = some false
  kr_InvalidLength_11 : PySem.W.kitOne K (.ref C_InvalidLength) (.ref C_InvalidViews) = some false
  kr_InvalidLength_12 : PySem.W.kitOne K (.ref C_InvalidLength) (.ref C_InvalidTexts) = some false
  kr_InvalidLength_13 : PySem.W.kitOne K (.ref C_InvalidLength) (.ref C_InvalidDeeds) = some false
  kr_InvalidLength_14 : PySem.W.kitOne K (.ref C_InvalidLength) (.ref C_NothingToUndo) = some false
  kr_InvalidLength_15 : PySem.W.kitOne K (.ref C_InvalidLength) (.ref C_Busy) = some false
  kr_InvalidLength_16 : PySem.W.kitOne K (.ref C_InvalidLength) (.ref C_UnknownName) = some false
  kr_InvalidLength_17 : PySem.W.kitOne K (.ref C_InvalidLength) (.ref C_TooMany) = some false
  kr_InvalidLength_18 : PySem.W.kitOne K (.ref C_InvalidLength) (.ref C_InputError) = some true
  kr_InvalidLength_19 : PySem.W.kitOne K (.ref C_InvalidLength) (.ref C_StateError) = some false
  kr_InvalidLength_20 : PySem.W.kitOne K (.ref C_InvalidLength) (.ref C_SizeError) = some false
  kr_InvalidLength_21 : PySem.W.kitOne K (.ref C_InvalidLength) (.type "ValueError") = some true
  kr_InvalidLength_22 : PySem.W.kitOne K (.ref C_InvalidLength) (.type "LookupError") = some false
  kr_InvalidLength_23 : PySem.W.kitOne K (.ref C_InvalidLength) (.type "ArithmeticError") = some false
  xf_InvalidRule : XfC K C_InvalidRule
  ex_InvalidRule : L2.ExcC K C_InvalidRule
  kr_InvalidRule_0 : PySem.W.kitOne K (.ref C_InvalidRule) (.ref C_InvalidNumber) = some false
  kr_InvalidRule_1 : PySem.W.kitOne K (.ref C_InvalidRule) (.ref C_InvalidMark) = some false
  kr_InvalidRule_2 : PySem.W.kitOne K (.ref C_InvalidRule) (.ref C_InvalidText) = some false
  kr_InvalidRule_3 : PySem.W.kitOne K (.ref C_InvalidRule) (.ref C_InvalidLength) = some false
  kr_InvalidRule_4 : PySem.W.kitOne K (.ref C_InvalidRule) (.ref C_InvalidRule) = some true
  kr_InvalidRule_5 : PySem.W.kitOne K (.ref C_InvalidRule) (.ref C_InvalidWidth) = some false
  kr_InvalidRule_6 : PySem.W.kitOne K (.ref C_InvalidRule) (.ref C_InvalidPlace) = some false
  kr_InvalidRule_7 : PySem.W.kitOne K (.ref C_InvalidRule) (.ref C_InvalidLine) = some false
  kr_InvalidRule_8 : PySem.W.kitOne K (.ref C_InvalidRule) (.ref C_NotANamer) = some false
  kr_InvalidRule_9 : PySem.W.kitOne K (.ref C_InvalidRule) (.ref C_NotAShelf) = some false
  kr_InvalidRule_10 : PySem.W.kitOne K (.ref C_InvalidRule) (.ref C_InvalidRow) = some false
  kr_InvalidRule_11 : PySem.W.kitOne K (.ref C_InvalidRule) (.ref C_InvalidViews) = some false
  kr_InvalidRule_12 : PySem.W.kitOne K (.ref C_InvalidRule) (.ref C_InvalidTexts) = some false
  kr_InvalidRule_13 : PySem.W.kitOne K (.ref C_InvalidRule) (.ref C_InvalidDeeds) = some false
  kr_InvalidRule_14 : PySem.W.kitOne K (.ref C_InvalidRule) (.ref C_NothingToUndo) = some false
  kr_InvalidRule_15 : PySem.W.kitOne K (.ref C_InvalidRule) (.ref C_Busy) = some false
  kr_InvalidRule_16 : PySem.W.kitOne K (.ref C_InvalidRule) (.ref C_UnknownName) = some false
  kr_InvalidRule_17 : PySem.W.kitOne K (.ref C_InvalidRule) (.ref C_TooMany) = some false
  kr_InvalidRule_18 : PySem.W.kitOne K (.ref C_InvalidRule) (.ref C_InputError) = some true
  kr_InvalidRule_19 : PySem.W.kitOne K (.ref C_InvalidRule) (.ref C_StateError) = some false
  kr_InvalidRule_20 : PySem.W.kitOne K (.ref C_InvalidRule) (.ref C_SizeError) = some false
  kr_InvalidRule_21 : PySem.W.kitOne K (.ref C_InvalidRule) (.type "ValueError") = some true
  kr_InvalidRule_22 : PySem.W.kitOne K (.ref C_InvalidRule) (.type "LookupError") = some false
  kr_InvalidRule_23 : PySem.W.kitOne K (.ref C_InvalidRule) (.type "ArithmeticError") = some false
  xf_InvalidWidth : XfC K C_InvalidWidth
  ex_InvalidWidth : L2.ExcC K C_InvalidWidth
  kr_InvalidWidth_0 : PySem.W.kitOne K (.ref C_InvalidWidth) (.ref C_InvalidNumber) = some false
  kr_InvalidWidth_1 : PySem.W.kitOne K (.ref C_InvalidWidth) (.ref C_InvalidMark) = some false
  kr_InvalidWidth_2 : PySem.W.kitOne K (.ref C_InvalidWidth) (.ref C_InvalidText) = some false
  kr_InvalidWidth_3 : PySem.W.kitOne K (.ref C_InvalidWidth) (.ref C_InvalidLength) = some false
  kr_InvalidWidth_4 : PySem.W.kitOne K (.ref C_InvalidWidth) (.ref C_InvalidRule) = some false
  kr_InvalidWidth_5 : PySem.W.kitOne K (.ref C_InvalidWidth) (.ref C_InvalidWidth) = some true
  kr_InvalidWidth_6 : PySem.W.kitOne K (.ref C_InvalidWidth) (.ref C_InvalidPlace) = some false
  kr_InvalidWidth_7 : PySem.W.kitOne K (.ref C_InvalidWidth) (.ref C_InvalidLine) = some false
  kr_InvalidWidth_8 : PySem.W.kitOne K (.ref C_InvalidWidth) (.ref C_NotANamer) = some false
  kr_InvalidWidth_9 : PySem.W.kitOne K (.ref C_InvalidWidth) (.ref C_NotAShelf) = some false
  kr_InvalidWidth_10 : PySem.W.kitOne K (.ref C_InvalidWidth) (.ref C_InvalidRow) = some false
  kr_InvalidWidth_11 : PySem.W.kitOne K (.ref C_InvalidWidth) (.ref C_InvalidViews) = some false
  kr_InvalidWidth_12 : PySem.W.kitOne K (.ref C_InvalidWidth) (.ref C_InvalidTexts) = some false
  kr_InvalidWidth_13 : PySem.W.kitOne K (.ref C_InvalidWidth) (.ref C_InvalidDeeds) = some false
  kr_InvalidWidth_14 : PySem.W.kitOne K (.ref C_InvalidWidth) (.ref C_NothingToUndo) = some false
  kr_InvalidWidth_15 : PySem.W.kitOne K (.ref C_InvalidWidth) (.ref C_Busy) = some false
  kr_InvalidWidth_16 : PySem.W.kitOne K (.ref C_InvalidWidth) (.ref C_UnknownName) = some false
  kr_InvalidWidth_17 : PySem.W.kitOne K (.ref C_InvalidWidth) (.ref C_TooMany) = some false
  kr_InvalidWidth_18 : PySem.W.kitOne K (.ref C_InvalidWidth) (.ref C_InputError) = some true
  kr_InvalidWidth_19 : PySem.W.kitOne K (.ref C_InvalidWidth) (.ref C_StateError) = some false
  kr_InvalidWidth_20 : PySem.W.kitOne K (.ref C_InvalidWidth) (.ref C_SizeError) = some false
  kr_InvalidWidth_21 : PySem.W.kitOne K (.ref C_InvalidWidth) (.type "ValueError") = some true
  kr_InvalidWidth_22 : PySem.W.kitOne K (.ref C_InvalidWidth) (.type "LookupError") = some false
  kr_InvalidWidth_23 : PySem.W.kitOne K (.ref C_InvalidWidth) (.type "ArithmeticError") = some false
  xf_InvalidPlace : XfC K C_InvalidPlace
  ex_InvalidPlace : L2.ExcC K C_InvalidPlace
  kr_InvalidPlace_0 : PySem.W.kitOne K (.ref C_InvalidPlace) (.ref C_InvalidNumber) = some false
  kr_InvalidPlace_1 : PySem.W.kitOne K (.ref C_InvalidPlace) (.ref C_InvalidMark) = some false
  kr_InvalidPlace_2 : PySem.W.kitOne K (.ref C_InvalidPlace) (.ref C_InvalidText) = some false
  kr_InvalidPlace_3 : PySem.W.kitOne K (.ref C_InvalidPlace) (.ref C_InvalidLength) = some false
  kr_InvalidPlace_4 : PySem.W.kitOne K (.ref C_InvalidPlace) (.ref C_InvalidRule) = some false
  kr_InvalidPlace_5 : PySem.W.kitOne K (.ref C_InvalidPlace) (.ref C_InvalidWidth) = some false
  kr_InvalidPlace_6 : PySem.W.kitOne K (.ref C_InvalidPlace) (.ref C_InvalidPlace) = some true
  kr_InvalidPlace_7 : PySem.W.kitOne K (.ref C_InvalidPlace) (.ref C_InvalidLine) = some false
  kr_InvalidPlace_8 : PySem.W.kitOne K (.ref C_InvalidPlace) (.ref C_NotANamer) = some false
  kr_InvalidPlace_9 : PySem.W.kitOne K (.ref C_InvalidPlace) (.ref C_NotAShelf) = some false
  kr_InvalidPlace_10 : PySem.W.kitOne K (.ref C_InvalidPlace) (.ref C_InvalidRow) = some false
  kr_InvalidPlace_11 : PySem.W.kitOne K (.ref C_InvalidPlace) (.ref C_InvalidViews) = some false
  kr_InvalidPlace_12 : PySem.W.kitOne K (.ref C_InvalidPlace) (.ref C_InvalidTexts) = some false
  kr_InvalidPlace_13 : PySem.W.kitOne K (.ref C_InvalidPlace) (.ref C_InvalidDeeds) = some false
  kr_InvalidPlace_14 : PySem.W.kitOne K (.ref C_InvalidPlace) (.ref C_NothingToUndo) = some false
  kr_InvalidPlace_15 : PySem.W.kitOne K (.ref C_InvalidPlace) (.ref C_Busy) = some false
  kr_InvalidPlace_16 : PySem.W.kitOne K (.ref C_InvalidPlace) (.ref C_UnknownName) = some false
  kr_InvalidPlace_17 : PySem.W.kitOne K (.ref C_InvalidPlace) (.ref C_TooMany) = some false
  kr_InvalidPlace_18 : PySem.W.kitOne K (.ref C_InvalidPlace) (.ref C_InputError) = some true
  kr_InvalidPlace_19 : PySem.W.kitOne K (.ref C_InvalidPlace) (.ref C_StateError) = some false
  kr_InvalidPlace_20 : PySem.W.kitOne K (.ref C_InvalidPlace) (.ref C_SizeError) = some false
  kr_InvalidPlace_21 : PySem.W.kitOne K (.ref C_InvalidPlace) (.type "ValueError") = some true
  kr_InvalidPlace_22 : PySem.W.kitOne K (.ref C_InvalidPlace) (.type "LookupError") = some false
  kr_InvalidPlace_23 : PySem.W.kitOne K (.ref C_InvalidPlace) (.type "ArithmeticError") = some false
  xf_InvalidLine : XfC K C_InvalidLine
  ex_InvalidLine : L2.ExcC K C_InvalidLine
  kr_InvalidLine_0 : PySem.W.kitOne K (.ref C_InvalidLine) (.ref C_InvalidNumber) = some false
  kr_InvalidLine_1 : PySem.W.kitOne K (.ref C_InvalidLine) (.ref C_InvalidMark) = some false
  kr_InvalidLine_2 : PySem.W.kitOne K (.ref C_InvalidLine) (.ref C_InvalidText) = some false
  kr_InvalidLine_3 : PySem.W.kitOne K (.ref C_InvalidLine) (.ref C_InvalidLength) = some false
  kr_InvalidLine_4 : PySem.W.kitOne K (.ref C_InvalidLine) (.ref C_InvalidRule) = some false
  kr_InvalidLine_5 : PySem.W.kitOne K (.ref C_InvalidLine) (.ref C_InvalidWidth) = some false
  kr_InvalidLine_6 : PySem.W.kitOne K (.ref C_InvalidLine) (.ref C_InvalidPlace) = some false
  kr_InvalidLine_7 : PySem.W.kitOne K (.ref C_InvalidLine) (.ref C_InvalidLine) = some true
  kr_InvalidLine_8 : PySem.W.kitOne K (.ref C_InvalidLine) (.ref C_NotANamer) = some false
  kr_InvalidLine_9 : PySem.W.kitOne K (.ref C_InvalidLine) (.ref C_NotAShelf) = some false
  kr_InvalidLine_10 : PySem.W.kitOne K (.ref C_InvalidLine) (.ref C_InvalidRow) = some false
  kr_InvalidLine_11 : PySem.W.kitOne K (.ref C_InvalidLine) (.ref C_InvalidViews) = some false
  kr_InvalidLine_12 : PySem.W.kitOne K (.ref C_InvalidLine) (.ref C_InvalidTexts) = some false
  kr_InvalidLine_13 : PySem.W.kitOne K (.ref C_InvalidLine) (.ref C_InvalidDeeds) = some false
  kr_InvalidLine_14 : PySem.W.kitOne K (.ref C_InvalidLine) (.ref C_NothingToUndo) = some false
  kr_InvalidLine_15 : PySem.W.kitOne K (.ref C_InvalidLine) (.ref C_Busy) = some false
  kr_InvalidLine_16 : PySem.W.kitOne K (.ref C_InvalidLine) (.ref C_UnknownName) = some false
  kr_InvalidLine_17 : PySem.W.kitOne K (.ref C_InvalidLine) (.ref C_TooMany) = some false
  kr_InvalidLine_18 : PySem.W.kitOne K (.ref C_InvalidLine) (.ref C_InputError) = some true
  kr_InvalidLine_19 : PySem.W.kitOne K (.ref C_InvalidLine) (.ref C_StateError) = some false
  kr_InvalidLine_20 : PySem.W.kitOne K (.ref C_InvalidLine) (.ref C_SizeError) = some false
  kr_InvalidLine_21 : PySem.W.kitOne K (.ref C_InvalidLine) (.type "ValueError") = some true
  kr_InvalidLine_22 : PySem.W.kitOne K (.ref C_InvalidLine) (.type "LookupError") = some false
  kr_InvalidLine_23 : PySem.W.kitOne K (.ref C_InvalidLine) (.type "ArithmeticError") = some false
  xf_NotANamer : XfC K C_NotANamer
  ex_NotANamer : L2.ExcC K C_NotANamer
  kr_NotANamer_0 : PySem.W.kitOne K (.ref C_NotANamer) (.ref C_InvalidNumber) = some false
  kr_NotANamer_1 : PySem.W.kitOne K (.ref C_NotANamer) (.ref C_InvalidMark) = some false
  kr_NotANamer_2 : PySem.W.kitOne K (.ref C_NotANamer) (.ref C_InvalidText) = some false
  kr_NotANamer_3 : PySem.W.kitOne K (.ref C_NotANamer) (.ref C_InvalidLength) = some false
  kr_NotANamer_4 : PySem.W.kitOne K (.ref C_NotANamer) (.ref C_InvalidRule) = some false
  kr_NotANamer_5 : PySem.W.kitOne K (.ref C_NotANamer) (.ref C_InvalidWidth) = some false
  kr_NotANamer_6 : PySem.W.kitOne K (.ref C_NotANamer) (.ref C_InvalidPlace) = some false
  kr_NotANamer_7 : PySem.W.kitOne K (.ref C_NotANamer) (.ref C_InvalidLine) = some false
  kr_NotANamer_8 : PySem.W.kitOne K (.ref C_NotANamer) (.ref C_NotANamer) = some true
  kr_NotANamer_9 : PySem.W.kitOne K (.ref C_NotANamer) (.ref C_NotAShelf) = some false
  kr_NotANamer_10 : PySem.W.kitOne K (.ref C_NotANamer) (.ref C_InvalidRow) = some false
  kr_NotANamer_11 : PySem.W.kitOne K (.ref C_NotANamer) (.ref C_InvalidViews) = some false
  kr_NotANamer_12 : PySem.W.kitOne K (.ref C_NotANamer) (.ref C_InvalidTexts) = some false
  kr_NotANamer_13 : PySem.W.kitOne K (.ref C_NotANamer) (.ref C_InvalidDeeds) = some false
  kr_NotANamer_14 : PySem.W.kitOne K (.ref C_NotANamer) (.ref C_NothingToUndo) = some false
  kr_NotANamer_15 : PySem.W.kitOne K (.ref C_NotANamer) (.ref C_Busy) = some false
  kr_NotANamer_16 : PySem.W.kitOne K (.ref C_NotANamer) (.ref C_UnknownName) = some false
  kr_NotANamer_17 : PySem.W.kitOne K (.ref C_NotANamer) (.ref C_TooMany) = some false
  kr_NotANamer_18 : PySem.W.kitOne K (.ref C_NotANamer) (.ref C_InputError) = some true
  kr_NotANamer_19 : PySem.W.kitOne K (.ref C_NotANamer) (.ref C_StateError) = some false
  kr_NotANamer_20 : PySem.W.kitOne K (.ref C_NotANamer) (.ref C_SizeError) = some false
  kr_NotANamer_21 : PySem.W.kitOne K (.ref C_NotANamer) (.type "ValueError") = some true
  kr_NotANamer_22 : PySem.W.kitOne K (.ref C_NotANamer) (.type "LookupError") = some false
  kr_NotANamer_23 : PySem.W.kitOne K (.ref C_NotANamer) (.type "ArithmeticError") = some false
  xf_NotAShelf : XfC K C_NotAShelf
  ex_NotAShelf : L2.ExcC K C_NotAShelf
  kr_NotAShelf_0 : PySem.W.kitOne K (.ref C_NotAShelf) (.ref C_InvalidNumber) = some false
  kr_NotAShelf_1 : PySem.W.kitOne K (.ref C_NotAShelf) (.ref C_InvalidMark) = some false
  kr_NotAShelf_2 : PySem.W.kitOne K (.ref C_NotAShelf) (.ref C_InvalidText) = some false
  kr_NotAShelf_3 : PySem.W.kitOne K (.ref C_NotAShelf) (.ref C_InvalidLength) = some false
  kr_NotAShelf_4 : PySem.W.kitOne K (.ref C_NotAShelf) (.ref C_InvalidRule) = some false
  kr_NotAShelf_5 : PySem.W.kitOne K (.ref C_NotAShelf) (.ref C_InvalidWidth) = some false
  kr_NotAShelf_6 : PySem.W.kitOne K (.ref C_NotAShelf) (.ref C_InvalidPlace) = some false
  kr_NotAShelf_7 : PySem.W.kitOne K (.ref C_NotAShelf) (.ref C_InvalidLine) = some false
  kr_NotAShelf_8 : PySem.W.kitOne K (.ref C_NotAShelf) (.ref C_NotANamer) = some false
  kr_NotAShelf_9 : PySem.W.kitOne K (.ref C_NotAShelf) (.ref C_NotAShelf) = some true
  kr_NotAShelf_10 : PySem.W.kitOne K (.ref C_NotAShelf) (.ref C_InvalidRow) = some false
  kr_NotAShelf_11 : PySem.W.kitOne K (.ref C_NotAShelf) (.ref C_InvalidViews) = some false
  kr_NotAShelf_12 : PySem.W.kitOne K (.ref C_NotAShelf) (.ref C_InvalidTexts) = some false
  kr_NotAShelf_13 : PySem.W.kitOne K (.ref C_NotAShelf) (.ref C_InvalidDeeds) = some false
  kr_NotAShelf_14 : PySem.W.kitOne K (.ref C_NotAShelf) (.ref C_NothingToUndo) = some false
  kr_NotAShelf_15 : PySem.W.kitOne K (.ref C_NotAShelf) (.ref C_Busy) = some false
  kr_NotAShelf_16 : PySem.W.kitOne K (.ref C_NotAShelf) (.ref C_UnknownName) = some false
  kr_NotAShelf_17 : PySem.W.kitOne K (.ref C_NotAShelf) (.ref C_TooMany) = some false
  kr_NotAShelf_18 : PySem.W.kitOne K (.ref C_NotAShelf) (.ref C_InputError) = some true
  kr_NotAShelf_19 : PySem.W.kitOne K (.ref C_NotAShelf) (.ref C_StateError) = some false
  kr_NotAShelf_20 : PySem.W.kitOne K (.ref C_NotAShelf) (.ref C_SizeError) = some false
  kr_NotAShelf_21 : PySem.W.kitOne K (.ref C_NotAShelf) (.type "ValueError") = some true
  kr_NotAShelf_22 : PySem.W.kitOne K (.ref C_NotAShelf) (.type "LookupError") = some false
  kr_NotAShelf_23 : PySem.W.kitOne K (.ref C_NotAShelf) (.type "ArithmeticError") = some false
  xf_InvalidRow : XfC K C_InvalidRow
  ex_InvalidRow : L2.ExcC K C_InvalidRow
  kr_InvalidRow_0 : PySem.W.kitOne K (.ref C_InvalidRow) (.ref C_InvalidNumber) = some false
  kr_InvalidRow_1 : PySem.W.kitOne K (.ref C_InvalidRow) (.ref C_InvalidMark) = some false
  kr_InvalidRow_2 : PySem.W.kitOne K (.ref C_InvalidRow) (.ref C_InvalidText) = some false
  kr_InvalidRow_3 : PySem.W.kitOne K (.ref C_InvalidRow) (.ref C_InvalidLength) = some false
  kr_InvalidRow_4 : PySem.W.kitOne K (.ref C_InvalidRow) (.ref C_InvalidRule) = some false
  kr_InvalidRow_5 : PySem.W.kitOne K (.ref C_InvalidRow) (.ref C_InvalidWidth) = some false
  kr_InvalidRow_6 : PySem.W.kitOne K (.ref C_InvalidRow) (.ref C_InvalidPlace) = some false
  kr_InvalidRow_7 : PySem.W.kitOne K (.ref C_InvalidRow) (.ref C_InvalidLine) = some false
  kr_InvalidRow_8 : PySem.W.kitOne K (.ref C_InvalidRow) (.ref C_NotANamer) = some false
  kr_InvalidRow_9 : PySem.W.kitOne K (.ref C_InvalidRow) (.ref C_NotAShelf) = some false
  kr_InvalidRow_10 : PySem.W.kitOne K (.ref C_InvalidRow) (.ref C_InvalidRow) = some true
  kr_InvalidRow_11 : PySem.W.kitOne K (.ref C_InvalidRow) (.ref C_InvalidViews) = some false
  kr_InvalidRow_12 : PySem.W.kitOne K (.ref C_InvalidRow) (.ref C_InvalidTexts) = some false
  kr_InvalidRow_13 : PySem.W.kitOne K (.ref C_InvalidRow) (.ref C_InvalidDeeds) = some false
  kr_InvalidRow_14 : PySem.W.kitOne K (.ref C_InvalidRow) (.ref C_NothingToUndo) = some false
  kr_InvalidRow_15 : PySem.W.kitOne K (.ref C_InvalidRow) (.ref C_Busy) = some false
  kr_InvalidRow_16 : PySem.W.kitOne K (.ref C_InvalidRow) (.ref C_UnknownName) = some false
  kr_InvalidRow_17 : PySem.W.kitOne K (.ref C_InvalidRow) (.ref C_TooMany) = some false
  kr_InvalidRow_18 : PySem.W.kitOne K (.ref C_InvalidRow) (.ref C_InputError) = some true
  kr_InvalidRow_19 : PySem.W.kitOne K (.ref C_InvalidRow) (.ref C_StateError) = some false
  kr_InvalidRow_20 : PySem.W.kitOne K (.ref C_InvalidRow) (.ref C_SizeError) = some false
  kr_InvalidRow_21 : PySem.W.kitOne K (.ref C_InvalidRow) (.type "ValueError") = some true
  kr_InvalidRow_22 : PySem.W.kitOne K (.ref C_InvalidRow) (.type "LookupError") = some false
  kr_InvalidRow_23 : PySem.W.kitOne K (.ref C_InvalidRow) (.type "ArithmeticError") = some false
  xf_InvalidViews : XfC K C_InvalidViews
  ex_InvalidViews : L2.ExcC K C_InvalidViews
  kr_InvalidViews_0 : PySem.W.kitOne K (.ref C_InvalidViews) (.ref C_InvalidNumber) = some false
  kr_InvalidViews_1 : PySem.W.kitOne K (.ref C_InvalidViews) (.ref C_InvalidMark) = some false
  kr_InvalidViews_2 : PySem.W.kitOne K (.ref C_InvalidViews) (.ref C_InvalidText) = some false
  kr_InvalidViews_3 : PySem.W.kitOne K (.ref C_InvalidViews) (.ref C_InvalidLength) = some false
  kr_InvalidViews_4 : PySem.W.kitOne K (.ref C_InvalidViews) (.ref C_InvalidRule) = some false
  kr_InvalidViews_5 : PySem.W.kitOne K (.ref C_InvalidViews) (.ref C_InvalidWidth) = some false
  kr_InvalidViews_6 : PySem.W.kitOne K (.ref C_InvalidViews) (.ref C_InvalidPlace) = some false
  kr_InvalidViews_7 : PySem.W.kitOne K (.ref C_InvalidViews) (.ref C_InvalidLine) = some false
  kr_InvalidViews_8 : PySem.W.kitOne K (.ref C_InvalidViews) (.ref C_NotANamer) = some false
  kr_InvalidViews_9 : PySem.W.kitOne K (.ref C_InvalidViews) (.ref C_NotAShelf) = some false
  kr_InvalidViews_10 : PySem.W.kitOne K (.ref C_InvalidViews) (.ref C_InvalidRow) = some false
  kr_InvalidViews_11 : PySem.W.kitOne K (.ref C_InvalidViews) (.ref C_InvalidViews) = some true
  kr_InvalidViews_12 : PySem.W.kitOne K (.ref C_InvalidViews) (.ref C_InvalidTexts) = some false
  kr_InvalidViews_13 : PySem.W.kitOne K (.ref C_InvalidViews) (.ref C_InvalidDeeds) = some false
  kr_InvalidViews_14 : PySem.W.kitOne K (.ref C_InvalidViews) (.ref C_NothingToUndo) = some false
  kr_InvalidViews_15 : PySem.W.kitOne K (.ref C_InvalidViews) (.ref C_Busy) = some false
  kr_InvalidViews_16 : PySem.W.kitOne K (.ref C_InvalidViews) (.ref C_UnknownName) = some false
  kr_InvalidViews_17 : PySem.W.kitOne K (.ref C_InvalidViews) (.ref C_TooMany) = some false
  kr_InvalidViews_18 : PySem.W.kitOne K (.ref C_InvalidViews) (.ref C_InputError) = some true
  kr_InvalidViews_19 : PySem.W.kitOne K (.ref C_InvalidViews) (.ref C_StateError) = some false
  kr_InvalidViews_20 : PySem.W.kitOne K (.ref C_InvalidViews) (.ref C_SizeError) = some false
  kr_InvalidViews_21 : PySem.W.kitOne K (.ref C_InvalidViews) (.type "ValueError") = some true
  kr_InvalidViews_22 : PySem.W.kitOne K (.ref C_InvalidViews) (.type "LookupError") = some false
  kr_InvalidViews_23 : PySem.W.kitOne K (.ref C_InvalidViews) (.type "ArithmeticError") = some false
  xf_InvalidTexts : XfC K C_InvalidTexts
  ex_InvalidTexts : L2.ExcC K C_InvalidTexts
  kr_InvalidTexts_0 : PySem.W.kitOne K (.ref C_InvalidTexts) (.ref C_InvalidNumber) = some false
  kr_InvalidTexts_1 : PySem.W.kitOne K (.ref C_InvalidTexts) (.ref C_InvalidMark) = some false
  kr_InvalidTexts_2 : PySem.W.kitOne K (.ref C_InvalidTexts) (.ref C_InvalidText) = some false
  kr_InvalidTexts_3 : PySem.W.kitOne K (.ref C_InvalidTexts) (.ref C_InvalidLength) = some false
  kr_InvalidTexts_4 : PySem.W.kitOne K (.ref C_InvalidTexts) (.ref C_InvalidRule) = some false
  kr_InvalidTexts_5 : PySem.W.kitOne K (.ref C_InvalidTexts) (.ref C_InvalidWidth) = some false
  kr_InvalidTexts_6 : PySem.W.kitOne K (.ref C_InvalidTexts) (.ref C_InvalidPlace) = some false
  kr_InvalidTexts_7 : PySem.W.kitOne K (.ref C_InvalidTexts) (.ref C_InvalidLine) = some false
  kr_InvalidTexts_8 : PySem.W.kitOne K (.ref C_InvalidTexts) (.ref C_NotANamer) = some false
  kr_InvalidTexts_9 : PySem.W.kitOne K (.ref C_InvalidTexts) (.ref C_NotAShelf) = some false
  kr_InvalidTexts_10 : PySem.W.kitOne K (.ref C_InvalidTexts) (.ref C_InvalidRow) = some false
  kr_InvalidTexts_11 : PySem.W.kitOne K (.ref C_InvalidTexts) (.ref C_InvalidViews) = some false
  kr_InvalidTexts_12 : PySem.W.kitOne K (.ref C_InvalidTexts) (.ref C_InvalidTexts) = some true
  kr_InvalidTexts_13 : PySem.W.kitOne K (.ref C_InvalidTexts) (.ref C_InvalidDeeds) = some false
  kr_InvalidTexts_14 : PySem.W.kitOne K (.ref C_InvalidTexts) (.ref C_NothingToUndo) = some false
  kr_InvalidTexts_15 : PySem.W.kitOne K (.ref C_InvalidTexts) (.ref C_Busy) = some false
  kr_InvalidTexts_16 : PySem.W.kitOne K (.ref C_InvalidTexts) (.ref C_UnknownName) = some false
  kr_InvalidTexts_17 : PySem.W.kitOne K (.ref C_InvalidTexts) (.ref C_TooMany) = some false
  kr_InvalidTexts_18 : PySem.W.kitOne K (.ref C_InvalidTexts) (.ref C_InputError) = some true
  kr_InvalidTexts_19 : PySem.W.kitOne K (.ref C_InvalidTexts) (.ref C_StateError) = some false
  kr_InvalidTexts_20 : PySem.W.kitOne K (.ref C_InvalidTexts) (.ref C_SizeError) = some false
  kr_InvalidTexts_21 : PySem.W.kitOne K (.ref C_InvalidTexts) (.type "ValueError") = some true
  kr_InvalidTexts_22 : PySem.W.kitOne K (.ref C_InvalidTexts) (.type "LookupError") = some false
  kr_InvalidTexts_23 : PySem.W.kitOne K (.ref C_InvalidTexts) (.type "ArithmeticError") = some false
  xf_InvalidDeeds : XfC K C_InvalidDeeds
  ex_InvalidDeeds : L2.ExcC K C_InvalidDeeds
  kr_InvalidDeeds_0 : PySem.W.kitOne K (.ref C_InvalidDeeds) (.ref C_InvalidNumber) = some false
  kr_InvalidDeeds_1 : PySem.W.kitOne K (.ref C_InvalidDeeds) (.ref C_InvalidMark) = some false
  kr_InvalidDeeds_2 : PySem.W.kitOne K (.ref C_InvalidDeeds) (.ref C_InvalidText) = some false
  kr_InvalidDeeds_3 : PySem.W.kitOne K (.ref C_InvalidDeeds) (.ref C_InvalidLength) = some false
  kr_InvalidDeeds_4 : PySem.W.kitOne K (.ref C_InvalidDeeds) (.ref C_InvalidRule) = some false
  kr_InvalidDeeds_5 : PySem.W.kitOne K (.ref C_InvalidDeeds) (.ref C_InvalidWidth) = some false
  kr_InvalidDeeds_6 : PySem.W.kitOne K (.ref C_InvalidDeeds) (.ref C_InvalidPlace) = some false
  kr_InvalidDeeds_7 : PySem.W.kitOne K (.ref C_InvalidDeeds) (.ref C_InvalidLine) = some false
  kr_InvalidDeeds_8 : PySem.W.kitOne K (.ref C_InvalidDeeds) (.ref C_NotANamer) = some false
  kr_InvalidDeeds_9 : PySem.W.kitOne K (.ref C_InvalidDeeds) (.ref C_NotAShelf) = some false
  kr_InvalidDeeds_10 : PySem.W.kitOne K (.ref C_InvalidDeeds) (.ref C_InvalidRow) = some false
  kr_InvalidDeeds_11 : PySem.W.kitOne K (.ref C_InvalidDeeds) (.ref C_InvalidViews) = some false
  kr_InvalidDeeds_12 : PySem.W.kitOne K (.ref C_InvalidDeeds) (.ref C_InvalidTexts) = some false
  kr_InvalidDeeds_13 : PySem.W.kitOne K (.ref C_InvalidDeeds) (.ref C_InvalidDeeds) = some true
  kr_InvalidDeeds_14 : PySem.W.kitOne K (.ref C_InvalidDeeds) (.ref C_NothingToUndo) = some false
  kr_InvalidDeeds_15 : PySem.W.kitOne K (.ref C_InvalidDeeds) (.ref C_Busy) = some false
  kr_InvalidDeeds_16 : PySem.W.kitOne K (.ref C_InvalidDeeds) (.ref C_UnknownName) = some false
  kr_InvalidDeeds_17 : PySem.W.kitOne K (.ref C_InvalidDeeds) (.ref C_TooMany) = some false
  kr_InvalidDeeds_18 : PySem.W.kitOne K (.ref C_InvalidDeeds) (.ref C_InputError) = some true
  kr_InvalidDeeds_19 : PySem.W.kitOne K (.ref C_InvalidDeeds) (.ref C_StateError) = some false
  kr_InvalidDeeds_20 : PySem.W.kitOne K (.ref C_InvalidDeeds) (.ref C_SizeError) = some false
  kr_InvalidDeeds_21 : PySem.W.kitOne K (.ref C_InvalidDeeds) (.type "ValueError") = some true
  kr_InvalidDeeds_22 : PySem.W.kitOne K (.ref C_InvalidDeeds) (.type "LookupError") = some false
  kr_InvalidDeeds_23 : PySem.W.kitOne K (.ref C_InvalidDeeds) (.type "ArithmeticError") = some false
  xf_NothingToUndo : XfC K C_NothingToUndo
  ex_NothingToUndo : L2.ExcC K C_NothingToUndo
  kr_NothingToUndo_0 : PySem.W.kitOne K (.ref C_NothingToUndo) (.ref C_InvalidNumber) = some false
  kr_NothingToUndo_1 : PySem.W.kitOne K (.ref C_NothingToUndo) (.ref C_InvalidMark) = some false
  kr_NothingToUndo_2 : PySem.W.kitOne K (.ref C_NothingToUndo) (.ref C_InvalidText) = some false
  kr_NothingToUndo_3 : PySem.W.kitOne K (.ref C_NothingToUndo) (.ref C_InvalidLength) = some false
  kr_NothingToUndo_4 : PySem.W.kitOne K (.ref C_NothingToUndo) (.ref C_InvalidRule) = some false
  kr_NothingToUndo_5 : PySem.W.kitOne K (.ref C_NothingToUndo) (.ref C_InvalidWidth) = some false
  kr_NothingToUndo_6 : PySem.W.kitOne K (.ref C_NothingToUndo) (.ref C_InvalidPlace) = some false
  kr_NothingToUndo_7 : PySem.W.kitOne K (.ref C_NothingToUndo) (.ref C_InvalidLine) = some false
  kr_NothingToUndo_8 : PySem.W.kitOne K (.ref C_NothingToUndo) (.ref C_NotANamer) = some false
  kr_NothingToUndo_9 : PySem.W.kitOne K (.ref C_NothingToUndo) (.ref C_NotAShelf) = some false
  kr_NothingToUndo_10 : PySem.W.kitOne K (.ref C_NothingToUndo) (.ref C_InvalidRow) = some false
  kr_NothingToUndo_11 : PySem.W.kitOne K (.ref C_NothingToUndo) (.ref C_InvalidViews) = some false
  kr_NothingToUndo_12 : PySem.W.kitOne K (.ref C_NothingToUndo) (.ref C_InvalidTexts) = some false
  kr_NothingToUndo_13 : PySem.W.kitOne K (.ref C_NothingToUndo) (.ref C_InvalidDeeds) = some false
  kr_NothingToUndo_14 : PySem.W.kitOne K (.ref C_NothingToUndo) (.ref C_NothingToUndo) = some true
  kr_NothingToUndo_15 : PySem.W.kitOne K (.ref C_NothingToUndo) (.ref C_Busy) = some false
  kr_NothingToUndo_16 : PySem.W.kitOne K (.ref C_NothingToUndo) (.ref C_UnknownName) = some false
  kr_NothingToUndo_17 : PySem.W.kitOne K (.ref C_NothingToUndo) (.ref C_TooMany) = some false
  kr_NothingToUndo_18 : PySem.W.kitOne K (.ref C_NothingToUndo) (.ref C_InputError) = some false
  kr_NothingToUndo_19 : PySem.W.kitOne K (.ref C_NothingToUndo) (.ref C_StateError) = some true
  kr_NothingToUndo_20 : PySem.W.kitOne K (.ref C_NothingToUndo) (.ref C_SizeError) = some false
  kr_NothingToUndo_21 : PySem.W.kitOne K (.ref C_NothingToUndo) (.type "ValueError") = some false
  kr_NothingToUndo_22 : PySem.W.kitOne K (.ref C_NothingToUndo) (.type "LookupError") = some true
  kr_NothingToUndo_23 : PySem.W.kitOne K (.ref C_NothingToUndo) (.type "ArithmeticError") = some false
  xf_Busy : XfC K C_Busy
  ex_Busy : L2.ExcC K C_Busy
  kr_Busy_0 : PySem.W.kitOne K (.ref C_Busy) (.ref C_InvalidNumber) = some false
  kr_Busy_1 : PySem.W.kitOne K (.ref C_Busy) (.ref C_InvalidMark) = some false
  kr_Busy_2 : PySem.W.kitOne K (.ref C_Busy) (.ref C_InvalidText) = some false
  kr_Busy_3 : PySem.W.kitOne K (.ref C_Busy) (.ref C_InvalidLength) = some false
  kr_Busy_4 : PySem.W.kitOne K (.ref C_Busy) (.ref C_InvalidRule) = some false
  kr_Busy_5 : PySem.W.kitOne K (.ref C_Busy) (.ref C_InvalidWidth) = some false
  kr_Busy_6 : PySem.W.kitOne K (.ref C_Busy) (.ref C_InvalidPlace) = some false
  kr_Busy_7 : PySem.W.kitOne K (.ref C_Busy) (.ref C_InvalidLine) = some false
  kr_Busy_8 : PySem.W.kitOne K (.ref C_Busy) (.ref C_NotANamer) = some false
  kr_Busy_9 : PySem.W.kitOne K (.ref C_Busy) (.ref C_NotAShelf) = some false
  kr_Busy_10 : PySem.W.kitOne K (.ref C_Busy) (.ref C_InvalidRow) = some false
  kr_Busy_11 : PySem.W.kitOne K (.ref C_Busy) (.ref C_InvalidViews) = some false
  kr_Busy_12 : PySem.W.kitOne K (.ref C_Busy) (.ref C_InvalidTexts) = some false
  kr_Busy_13 : PySem.W.kitOne K (.ref C_Busy) (.ref C_InvalidDeeds) = some false
  kr_Busy_14 : PySem.W.kitOne K (.ref C_Busy) (.ref C_NothingToUndo) = some false
  kr_Busy_15 : PySem.W.kitOne K (.ref C_Busy) (.ref C_Busy) = some true
  kr_Busy_16 : PySem.W.kitOne K (.ref C_Busy) (.ref C_UnknownName) = some false
  kr_Busy_17 : PySem.W.kitOne K (.ref C_Busy) (.ref C_TooMany) = some false
  kr_Busy_18 : PySem.W.kitOne K (.ref C_Busy) (.ref C_InputError) = some false
  kr_Busy_19 : PySem.W.kitOne K (.ref C_Busy) (.ref C_StateError) = some true
  kr_Busy_20 : PySem.W.kitOne K (.ref C_Busy) (.ref C_SizeError) = some false
  kr_Busy_21 : PySem.W.kitOne K (.ref C_Busy) (.type "ValueError") = some false
  kr_Busy_22 : PySem.W.kitOne K (.ref C_Busy) (.type "LookupError") = some true
  kr_Busy_23 : PySem.W.kitOne K (.ref C_Busy) (.type "ArithmeticError") = some false
  xf_UnknownName : XfC K C_UnknownName
  ex_UnknownName : L2.ExcC K C_UnknownName
  kr_UnknownName_0 : PySem.W.kitOne K (.ref C_UnknownName) (.ref C_InvalidNumber) = some false
  kr_UnknownName_1 : PySem.W.kitOne K (.ref C_UnknownName) (.ref C_InvalidMark) = some false
  kr_UnknownName_2 : PySem.W.kitOne K (.ref C_UnknownName) (.ref C_InvalidText) = some false
  kr_UnknownName_3 : PySem.W.kitOne K (.ref C_UnknownName) (.ref C_InvalidLength) = some false
  kr_UnknownName_4 : PySem.W.kitOne K (.ref C_UnknownName) (.ref C_InvalidRule) = some false
  kr_UnknownName_5 : PySem.W.kitOne K (.ref C_UnknownName) (.ref C_InvalidWidth) = some false
  kr_UnknownName_6 : PySem.W.kitOne K (.ref C_UnknownName) (.ref C_InvalidPlace) = some false
  kr_UnknownName_7 : PySem.W.kitOne K (.ref C_UnknownName) (.ref C_InvalidLine) = some false
  kr_UnknownName_8 : PySem.W.kitOne K (.ref C_UnknownName) (.ref C_NotANamer) = some false
  kr_UnknownName_9 : PySem.W.kitOne K (.ref C_UnknownName) (.ref C_NotAShelf) = some false
  kr_UnknownName_10 : PySem.W.kitOne K (.ref C_UnknownName) (.ref C_InvalidRow) = some false
  kr_UnknownName_11 : PySem.W.kitOne K (.ref C_UnknownName) (.ref C_InvalidViews) = some false
  kr_UnknownName_12 : PySem.W.kitOne K (.ref C_UnknownName) (.ref C_InvalidTexts) = some false
  kr_UnknownName_13 : PySem.W.kitOne K (.ref C_UnknownName) (.ref C_InvalidDeeds) = some false
  kr_UnknownName_14 : PySem.W.kitOne K (.ref C_UnknownName) (.ref C_NothingToUndo) = some false
  kr_UnknownName_15 : PySem.W.kitOne K (.ref C_UnknownName) (.ref C_Busy) = some false
  kr_UnknownName_16 : PySem.W.kitOne K (.ref C_UnknownName) (.ref C_UnknownName) = some true
  kr_UnknownName_17 : PySem.W.kitOne K (.ref C_UnknownName) (.ref C_TooMany) = some false
  kr_UnknownName_18 : PySem.W.kitOne K (.ref C_UnknownName) (.ref C_InputError) = some false
  kr_UnknownName_19 : PySem.W.kitOne K (.ref C_UnknownName) (.ref C_StateError) = some true
  kr_UnknownName_20 : PySem.W.kitOne K (.ref C_UnknownName) (.ref C_SizeError) = some false
  kr_UnknownName_21 : PySem.W.kitOne K (.ref C_UnknownName) (.type "ValueError") = some false
  kr_UnknownName_22 : PySem.W.kitOne K (.ref C_UnknownName) (.type "LookupError") = some true
  kr_UnknownName_23 : PySem.W.kitOne K (.ref C_UnknownName) (.type "ArithmeticError") = some false
  xf_TooMany : XfC K C_TooMany
  ex_TooMany : L2.ExcC K C_TooMany
  kr_TooMany_0 : PySem.W.kitOne K (.ref C_TooMany) (.ref C_InvalidNumber) = some false
  kr_TooMany_1 : PySem.W.kitOne K (.ref C_TooMany) (.ref C_InvalidMark) = some false
  kr_TooMany_2 : PySem.W.kitOne K (.ref C_TooMany) (.ref C_InvalidText) = some false
  kr_TooMany_3 : PySem.W.kitOne K (.ref C_TooMany) (.ref C_InvalidLength) = some false
  kr_TooMany_4 : PySem.W.kitOne K (.ref C_TooMany) (.ref C_InvalidRule) = some false
  kr_TooMany_5 : PySem.W.kitOne K (.ref C_TooMany) (.ref C_InvalidWidth) = some false
  kr_TooMany_6 : PySem.W.kitOne K (.ref C_TooMany) (.ref C_InvalidPlace) = some false
  kr_TooMany_7 : PySem.W.kitOne K (.ref C_TooMany) (.ref C_InvalidLine) = some false
  kr_TooMany_8 : PySem.W.kitOne K (.ref C_TooMany) (.ref C_NotANamer) = some false
  kr_TooMany_9 : PySem.W.kitOne K (.ref C_TooMany) (.ref C_NotAShelf) = some false
  kr_TooMany_10 : PySem.W.kitOne K (.ref C_TooMany) (.ref C_InvalidRow) = some false
  kr_TooMany_11 : PySem.W.kitOne K (.ref C_TooMany) (.ref C_InvalidViews) = some false
  kr_TooMany_12 : PySem.W.kitOne K (.ref C_TooMany) (.ref C_InvalidTexts) = some false
  kr_TooMany_13 : PySem.W.kitOne K (.ref C_TooMany) (.ref C_InvalidDeeds) = some false
  kr_TooMany_14 : PySem.W.kitOne K (.ref C_TooMany) (.ref C_NothingToUndo) = some false
  kr_TooMany_15 : PySem.W.kitOne K (.ref C_TooMany) (.ref C_Busy) = some false
  kr_TooMany_16 : PySem.W.kitOne K (.ref C_TooMany) (.ref C_UnknownName) = some false
  kr_TooMany_17 : PySem.W.kitOne K (.ref C_TooMany) (.ref C_TooMany) = some true
  kr_TooMany_18 : PySem.W.kitOne K (.ref C_TooMany) (.ref C_InputError) = some false
  kr_TooMany_19 : PySem.W.kitOne K (.ref C_TooMany) (.ref C_StateError) = some false
  kr_TooMany_20 : PySem.W.kitOne K (.ref C_TooMany) (.ref C_SizeError) = some true
  kr_TooMany_21 : PySem.W.kitOne K (.ref C_TooMany) (.type "ValueError") = some false
  kr_TooMany_22 : PySem.W.kitOne K (.ref C_TooMany) (.type "LookupError") = some false
  kr_TooMany_23 : PySem.W.kitOne K (.ref C_TooMany) (.type "ArithmeticError") = some true
  f__law_pot : Addr
  d__law_pot : FuncData
  F__law_pot : L2.Fun K "_law_pot" "_law_pot" s__law_pot f__law_pot d__law_pot
  b__law_pot : Binds K d__law_pot p__law_pot []
  m__law_pot : mg "_law_pot" = some (.ref f__law_pot)
  f__law_ladle : Addr
  d__law_ladle : FuncData
  F__law_ladle : L2.Fun K "_law_ladle" "_law_ladle" s__law_ladle f__law_ladle d__law_ladle
  b__law_ladle : Binds K d__law_ladle p__law_ladle []
  m__law_ladle : mg "_law_ladle" = some (.ref f__law_ladle)
  f__law_one_of : Addr
  d__law_one_of : FuncData
  F__law_one_of : L2.Fun K "_law_one_of" "_law_one_of" s__law_one_of f__law_one_of d__law_one_of
  b__law_one_of : Binds K d__law_one_of p__law_one_of []
  m__law_one_of : mg "_law_one_of" = some (.ref f__law_one_of)
  f__law_value_errors : Addr
  d__law_value_errors : FuncData
  F__law_value_errors : L2.Fun K "_law_value_errors" "_law_value_errors" s__law_value_errors f__law_value_errors d__law_value_errors
  b__law_value_errors : Binds K d__law_value_errors p__law_value_errors []
  m__law_value_errors : mg "_law_value_errors" = some (.ref f__law_value_errors)
  f__law_index_errors : Addr
  d__law_index_errors : FuncData
  F__law_index_errors : L2.Fun K "_law_index_errors" "_law_index_errors" s__law_index_errors f__law_index_errors d__law_index_errors
  b__law_index_errors : Binds K d__law_index_errors p__law_index_errors []
  m__law_index_errors : mg "_law_index_errors" = some (.ref f__law_index_errors)
  f__law_instances : Addr
  d__law_instances : FuncData
  F__law_instances : L2.Fun K "_law_instances" "_law_instances" s__law_instances f__law_instances d__law_instances
  b__law_instances : Binds K d__law_instances p__law_instances []
  m__law_instances : mg "_law_instances" = some (.ref f__law_instances)
  f__law_bases : Addr
  d__law_bases : FuncData
  F__law_bases : L2.Fun K "_law_bases" "_law_bases" s__law_bases f__law_bases d__law_bases
  b__law_bases : Binds K d__law_bases p__law_bases []
  m__law_bases : mg "_law_bases" = some (.ref f__law_bases)
  f__law_right : Addr
  d__law_right : FuncData
  F__law_right : L2.Fun K "_law_right" "_law_right" s__law_right f__law_right d__law_right
  b__law_right : Binds K d__law_right p__law_right []
  m__law_right : mg "_law_right" = some (.ref f__law_right)
  f_law : Addr
  d_law : FuncData
  F_law : L2.Fun K "law" "law" s_law f_law d_law
  b_law : Binds K d_law p_law []
  m_law : mg "law" = some (.ref f_law)
set_option maxHeartbeats 16000000 in
theorem all_mk {K : PySem.W.Frag} {h : Heap} {mg : Str → Option Value} (X : K.In h) (G : h.Ns mainGlobals mg)
    {f_law : Addr} {oc_law kV_law dc_law pm_law cd_law ct_law : Value} {od_law an_law : Option Addr} {sl_law : Array (Option Value)}
    {f__law_right : Addr} {oc__law_right kV__law_right dc__law_right pm__law_right cd__law_right ct__law_right : Value} {od__law_right an__law_right : Option Addr} {sl__law_right : Array (Option Value)}
    {f__law_bases : Addr} {oc__law_bases kV__law_bases dc__law_bases pm__law_bases cd__law_bases ct__law_bases : Value} {od__law_bases an__law_bases : Option Addr} {sl__law_bases : Array (Option Value)}
    {f__law_instances : Addr} {oc__law_instances kV__law_instances dc__law_instances pm__law_instances cd__law_instances ct__law_instances : Value} {od__law_instances an__law_instances : Option Addr} {sl__law_instances : Array (Option Value)}
    {f__law_index_errors : Addr} {oc__law_index_errors kV__law_index_errors dc__law_index_errors pm__law_index_errors cd__law_index_errors ct__law_index_errors : Value} {od__law_index_errors an__law_index_errors : Option Addr} {sl__law_index_errors : Array (Option Value)}
    {f__law_value_errors : Addr} {oc__law_value_errors kV__law_value_errors dc__law_value_errors pm__law_value_errors cd__law_value_errors ct__law_value_errors : Value} {od__law_value_errors an__law_value_errors : Option Addr} {sl__law_value_errors : Array (Option Value)}
    {f__law_one_of : Addr} {oc__law_one_of kV__law_one_of dc__law_one_of pm__law_one_of cd__law_one_of ct__law_one_of : Value} {od__law_one_of an__law_one_of : Option Addr} {sl__law_one_of : Array (Option Value)}
    {f__law_ladle : Addr} {oc__law_ladle kV__law_ladle dc__law_ladle pm__law_ladle cd__law_ladle ct__law_ladle : Value} {od__law_ladle an__law_ladle : Option Addr} {sl__law_ladle : Array (Option Value)}
    {f__law_pot : Addr} {oc__law_pot kV__law_pot dc__law_pot pm__law_pot cd__law_pot ct__law_pot : Value} {od__law_pot an__law_pot : Option Addr} {sl__law_pot : Array (Option Value)}
    {f_TooMany___init__ : Addr} {oc_TooMany___init__ kV_TooMany___init__ dc_TooMany___init__ pm_TooMany___init__ cd_TooMany___init__ ct_TooMany___init__ : Value} {od_TooMany___init__ an_TooMany___init__ : Option Addr} {sl_TooMany___init__ : Array (Option Value)}
    {nm_TooMany q_TooMany : Str} {N_TooMany : Addr} {bs_TooMany bm_TooMany sub_TooMany : List Value} {sn_TooMany : List Str} {ab_TooMany : Bool} {col_TooMany : Option Bool} {dd_TooMany : Option Addr} {e0_TooMany e1_TooMany e2_TooMany e3_TooMany e5_TooMany : Option Value}
    {f_UnknownName___init__ : Addr} {oc_UnknownName___init__ kV_UnknownName___init__ dc_UnknownName___init__ pm_UnknownName___init__ cd_UnknownName___init__ ct_UnknownName___init__ : Value} {od_UnknownName___init__ an_UnknownName___init__ : Option Addr} {sl_UnknownName___init__ : Array (Option Value)}
    {nm_UnknownName q_UnknownName : Str} {N_UnknownName : Addr} {bs_UnknownName bm_UnknownName sub_UnknownName : List Value} {sn_UnknownName : List Str} {ab_UnknownName : Bool} {col_UnknownName : Option Bool} {dd_UnknownName : Option Addr} {e0_UnknownName e1_UnknownName e2_UnknownName e3_UnknownName e5_UnknownName : Option Value}
    {f_InvalidDeeds___init__ : Addr} {oc_InvalidDeeds___init__ kV_InvalidDeeds___init__ dc_InvalidDeeds___init__ pm_InvalidDeeds___init__ cd_InvalidDeeds___init__ ct_InvalidDeeds___init__ : Value} {od_InvalidDeeds___init__ an_InvalidDeeds___init__ : Option Addr} {sl_InvalidDeeds___init__ : Array (Option Value)}
    {nm_InvalidDeeds q_InvalidDeeds : Str} {N_InvalidDeeds : Addr} {bs_InvalidDeeds bm_InvalidDeeds sub_InvalidDeeds : List Value} {sn_InvalidDeeds : List Str} {ab_InvalidDeeds : Bool} {col_InvalidDeeds : Option Bool} {dd_InvalidDeeds : Option Addr} {e0_InvalidDeeds e1_InvalidDeeds e2_InvalidDeeds e3_InvalidDeeds e5_InvalidDeeds : Option Value}
    {f_InvalidTexts___init__ : Addr} {oc_InvalidTexts___init__ kV_InvalidTexts___init__ dc_InvalidTexts___init__ pm_InvalidTexts___init__ cd_InvalidTexts___init__ ct_InvalidTexts___init__ : Value} {od_InvalidTexts___init__ an_InvalidTexts___init__ : Option Addr} {sl_InvalidTexts___init__ : Array (Option Value)}
    {nm_InvalidTexts q_InvalidTexts : Str} {N_InvalidTexts : Addr} {bs_InvalidTexts bm_InvalidTexts sub_InvalidTexts : List Value} {sn_InvalidTexts : List Str} {ab_InvalidTexts : Bool} {col_InvalidTexts : Option Bool} {dd_InvalidTexts : Option Addr} {e0_InvalidTexts e1_InvalidTexts e2_InvalidTexts e3_InvalidTexts e5_InvalidTexts : Option Value}
    {f_InvalidViews___init__ : Addr} {oc_InvalidViews___init__ kV_InvalidViews___init__ dc_InvalidViews___init__ pm_InvalidViews___init__ cd_InvalidViews___init__ ct_InvalidViews___init__ : Value} {od_InvalidViews___init__ an_InvalidViews___init__ : Option Addr} {sl_InvalidViews___init__ : Array (Option Value)}
    {nm_InvalidViews q_InvalidViews : Str} {N_InvalidViews : Addr} {bs_InvalidViews bm_InvalidViews sub_InvalidViews : List Value} {sn_InvalidViews : List Str} {ab_InvalidViews : Bool} {col_InvalidViews : Option Bool} {dd_InvalidViews : Option Addr} {e0_InvalidViews e1_InvalidViews e2_InvalidViews e3_InvalidViews e5_InvalidViews : Option Value}
    {f_InvalidRow___init__ : Addr} {oc_InvalidRow___init__ kV_InvalidRow___init__ dc_InvalidRow___init__ pm_InvalidRow___init__ cd_InvalidRow___init__ ct_InvalidRow___init__ : Value} {od_InvalidRow___init__ an_InvalidRow___init__ : Option Addr} {sl_InvalidRow___init__ : Array (Option Value)}
    {nm_InvalidRow q_InvalidRow : Str} {N_InvalidRow : Addr} {bs_InvalidRow bm_InvalidRow sub_InvalidRow : List Value} {sn_InvalidRow : List Str} {ab_InvalidRow : Bool} {col_InvalidRow : Option Bool} {dd_InvalidRow : Option Addr} {e0_InvalidRow e1_InvalidRow e2_InvalidRow e3_InvalidRow e5_InvalidRow : Option Value}
    {f_NotAShelf___init__ : Addr} {oc_NotAShelf___init__ kV_NotAShelf___init__ dc_NotAShelf___init__ pm_NotAShelf___init__ cd_NotAShelf___init__ ct_NotAShelf___init__ : Value} {od_NotAShelf___init__ an_NotAShelf___init__ : Option Addr} {sl_NotAShelf___init__ : Array (Option Value)}
    {nm_NotAShelf q_NotAShelf : Str} {N_NotAShelf : Addr} {bs_NotAShelf bm_NotAShelf sub_NotAShelf : List Value} {sn_NotAShelf : List Str} {ab_NotAShelf : Bool} {col_NotAShelf : Option Bool} {dd_NotAShelf : Option Addr} {e0_NotAShelf e1_NotAShelf e2_NotAShelf e3_NotAShelf e5_NotAShelf : Option Value}
    {f_NotANamer___init__ : Addr} {oc_NotANamer___init__ kV_NotANamer___init__ dc_NotANamer___init__ pm_NotANamer___init__ cd_NotANamer___init__ ct_NotANamer___init__ : Value} {od_NotANamer___init__ an_NotANamer___init__ : Option Addr} {sl_NotANamer___init__ : Array (Option Value)}
    {nm_NotANamer q_NotANamer : Str} {N_NotANamer : Addr} {bs_NotANamer bm_NotANamer sub_NotANamer : List Value} {sn_NotANamer : List Str} {ab_NotANamer : Bool} {col_NotANamer : Option Bool} {dd_NotANamer : Option Addr} {e0_NotANamer e1_NotANamer e2_NotANamer e3_NotANamer e5_NotANamer : Option Value}
    {f_InvalidLine___init__ : Addr} {oc_InvalidLine___init__ kV_InvalidLine___init__ dc_InvalidLine___init__ pm_InvalidLine___init__ cd_InvalidLine___init__ ct_InvalidLine___init__ : Value} {od_InvalidLine___init__ an_InvalidLine___init__ : Option Addr} {sl_InvalidLine___init__ : Array (Option Value)}
    {nm_InvalidLine q_InvalidLine : Str} {N_InvalidLine : Addr} {bs_InvalidLine bm_InvalidLine sub_InvalidLine : List Value} {sn_InvalidLine : List Str} {ab_InvalidLine : Bool} {col_InvalidLine : Option Bool} {dd_InvalidLine : Option Addr} {e0_InvalidLine e1_InvalidLine e2_InvalidLine e3_InvalidLine e5_InvalidLine : Option Value}
    {f_InvalidPlace___init__ : Addr} {oc_InvalidPlace___init__ kV_InvalidPlace___init__ dc_InvalidPlace___init__ pm_InvalidPlace___init__ cd_InvalidPlace___init__ ct_InvalidPlace___init__ : Value} {od_InvalidPlace___init__ an_InvalidPlace___init__ : Option Addr} {sl_InvalidPlace___init__ : Array (Option Value)}
    {nm_InvalidPlace q_InvalidPlace : Str} {N_InvalidPlace : Addr} {bs_InvalidPlace bm_InvalidPlace sub_InvalidPlace : List Value} {sn_InvalidPlace : List Str} {ab_InvalidPlace : Bool} {col_InvalidPlace : Option Bool} {dd_InvalidPlace : Option Addr} {e0_InvalidPlace e1_InvalidPlace e2_InvalidPlace e3_InvalidPlace e5_InvalidPlace : Option Value}
    {f_InvalidWidth___init__ : Addr} {oc_InvalidWidth___init__ kV_InvalidWidth___init__ dc_InvalidWidth___init__ pm_InvalidWidth___init__ cd_InvalidWidth___init__ ct_InvalidWidth___init__ : Value} {od_InvalidWidth___init__ an_InvalidWidth___init__ : Option Addr} {sl_InvalidWidth___init__ : Array (Option Value)}
    {nm_InvalidWidth q_InvalidWidth : Str} {N_InvalidWidth : Addr} {bs_InvalidWidth bm_InvalidWidth sub_InvalidWidth : List Value} {sn_InvalidWidth : List Str} {ab_InvalidWidth : Bool} {col_InvalidWidth : Option Bool} {dd_InvalidWidth : Option Addr} {e0_InvalidWidth e1_InvalidWidth e2_InvalidWidth e3_InvalidWidth e5_InvalidWidth : Option Value}
    {f_InvalidRule___init__ : Addr} {oc_InvalidRule___init__ kV_InvalidRule___init__ dc_InvalidRule___init__ pm_InvalidRule___init__ cd_InvalidRule___init__ ct_InvalidRule___init__ : Value} {od_InvalidRule___init__ an_InvalidRule___init__ : Option Addr} {sl_InvalidRule___init__ : Array (Option Value)}
    {nm_InvalidRule q_InvalidRule : Str} {N_InvalidRule : Addr} {bs_InvalidRule bm_InvalidRule sub_InvalidRule : List Value} {sn_InvalidRule : List Str} {ab_InvalidRule : Bool} {col_InvalidRule : Option Bool} {dd_InvalidRule : Option Addr} {e0_InvalidRule e1_InvalidRule e2_InvalidRule e3_InvalidRule e5_InvalidRule : Option Value}
    {f_InvalidLength___init__ : Addr} {oc_InvalidLength___init__ kV_InvalidLength___init__ dc_InvalidLength___init__ pm_InvalidLength___init__ cd_InvalidLength___init__ ct_InvalidLength___init__ : Value} {od_InvalidLength___init__ an_InvalidLength___init__ : Option Addr} {sl_InvalidLength___init__ : Array (Option Value)}
    {nm_InvalidLength q_InvalidLength : Str} {N_InvalidLength : Addr} {bs_InvalidLength bm_InvalidLength sub_InvalidLength : List Value} {sn_InvalidLength : List Str} {ab_InvalidLength : Bool} {col_InvalidLength : Option Bool} {dd_InvalidLength : Option Addr} {e0_InvalidLength e1_InvalidLength e2_InvalidLength e3_InvalidLength e5_InvalidLength : Option Value}
    {f_InvalidText___init__ : Addr} {oc_InvalidText___init__ kV_InvalidText___init__ dc_InvalidText___init__ pm_InvalidText___init__ cd_InvalidText___init__ ct_InvalidText___init__ : Value} {od_InvalidText___init__ an_InvalidText___init__ : Option Addr} {sl_InvalidText___init__ : Array (Option Value)}
    {nm_InvalidText q_InvalidText : Str} {N_InvalidText : Addr} {bs_InvalidText bm_InvalidText sub_InvalidText : List Value} {sn_InvalidText : List Str} {ab_InvalidText : Bool} {col_InvalidText : Option Bool} {dd_InvalidText : Option Addr} {e0_InvalidText e1_InvalidText e2_InvalidText e3_InvalidText e5_InvalidText : Option Value}
    {f_InvalidMark___init__ : Addr} {oc_InvalidMark___init__ kV_InvalidMark___init__ dc_InvalidMark___init__ pm_InvalidMark___init__ cd_InvalidMark___init__ ct_InvalidMark___init__ : Value} {od_InvalidMark___init__ an_InvalidMark___init__ : Option Addr} {sl_InvalidMark___init__ : Array (Option Value)}
    {nm_InvalidMark q_InvalidMark : Str} {N_InvalidMark : Addr} {bs_InvalidMark bm_InvalidMark sub_InvalidMark : List Value} {sn_InvalidMark : List Str} {ab_InvalidMark : Bool} {col_InvalidMark : Option Bool} {dd_InvalidMark : Option Addr} {e0_InvalidMark e1_InvalidMark e2_InvalidMark e3_InvalidMark e5_InvalidMark : Option Value}
    {f_InvalidNumber___init__ : Addr} {oc_InvalidNumber___init__ kV_InvalidNumber___init__ dc_InvalidNumber___init__ pm_InvalidNumber___init__ cd_InvalidNumber___init__ ct_InvalidNumber___init__ : Value} {od_InvalidNumber___init__ an_InvalidNumber___init__ : Option Addr} {sl_InvalidNumber___init__ : Array (Option Value)}
    {nm_InvalidNumber q_InvalidNumber : Str} {N_InvalidNumber : Addr} {bs_InvalidNumber bm_InvalidNumber sub_InvalidNumber : List Value} {sn_InvalidNumber : List Str} {ab_InvalidNumber : Bool} {col_InvalidNumber : Option Bool} {dd_InvalidNumber : Option Addr} {e0_InvalidNumber e1_InvalidNumber e2_InvalidNumber e3_InvalidNumber e5_InvalidNumber : Option Value}
    {C_TooMany : Addr}
    {C_UnknownName : Addr}
    {C_Busy : Addr}
    {C_NothingToUndo : Addr}
    {C_InvalidDeeds : Addr}
    {C_InvalidTexts : Addr}
    {C_InvalidViews : Addr}
    {C_InvalidRow : Addr}
    {C_NotAShelf : Addr}
    {C_NotANamer : Addr}
    {C_InvalidLine : Addr}
    {C_InvalidPlace : Addr}
    {C_InvalidWidth : Addr}
    {C_InvalidRule : Addr}
    {C_InvalidLength : Addr}
    {C_InvalidText : Addr}
    {C_InvalidMark : Addr}
    {C_InvalidNumber : Addr}
    {C_SizeError : Addr}
    {C_StateError : Addr}
    {C_InputError : Addr}
    {tk_MOST_SHELVED : Tok}
    {tk_MOST_LISTED : Tok}
    {tk_MOST_LENGTH : Tok}
    {tk_MOST_TEXT : Tok}
    {tk_MOST_VIEWS : Tok}
    {tk_MOST_ROW : Tok}
    {tk_MOST_MARK : Tok}
    {tk_MOST_SIGNS : Tok}
    (x_n_ArithmeticError : PySem.W.nsIn K mainGlobals "ArithmeticError" = some none)
    (x_n_LookupError : PySem.W.nsIn K mainGlobals "LookupError" = some none)
    (x_n_ValueError : PySem.W.nsIn K mainGlobals "ValueError" = some none)
    (x_n_abs : PySem.W.nsIn K mainGlobals "abs" = some none)
    (x_n_all : PySem.W.nsIn K mainGlobals "all" = some none)
    (x_n_divmod : PySem.W.nsIn K mainGlobals "divmod" = some none)
    (x_n_int : PySem.W.nsIn K mainGlobals "int" = some none)
    (x_n_isinstance : PySem.W.nsIn K mainGlobals "isinstance" = some none)
    (x_n_len : PySem.W.nsIn K mainGlobals "len" = some none)
    (x_n_max : PySem.W.nsIn K mainGlobals "max" = some none)
    (x_n_min : PySem.W.nsIn K mainGlobals "min" = some none)
    (x_n_range : PySem.W.nsIn K mainGlobals "range" = some none)
    (x_n_repr : PySem.W.nsIn K mainGlobals "repr" = some none)
    (x_k_MOST_SIGNS : PySem.W.nsIn K mainGlobals "MOST_SIGNS" = some (some (.int 40 tk_MOST_SIGNS)))
    (x_k_MOST_MARK : PySem.W.nsIn K mainGlobals "MOST_MARK" = some (some (.int 3 tk_MOST_MARK)))
    (x_k_MOST_ROW : PySem.W.nsIn K mainGlobals "MOST_ROW" = some (some (.int 4 tk_MOST_ROW)))
    (x_k_MOST_VIEWS : PySem.W.nsIn K mainGlobals "MOST_VIEWS" = some (some (.int 4 tk_MOST_VIEWS)))
    (x_k_MOST_TEXT : PySem.W.nsIn K mainGlobals "MOST_TEXT" = some (some (.int 200 tk_MOST_TEXT)))
    (x_k_MOST_LENGTH : PySem.W.nsIn K mainGlobals "MOST_LENGTH" = some (some (.int 500 tk_MOST_LENGTH)))
    (x_k_MOST_LISTED : PySem.W.nsIn K mainGlobals "MOST_LISTED" = some (some (.int 6 tk_MOST_LISTED)))
    (x_k_MOST_SHELVED : PySem.W.nsIn K mainGlobals "MOST_SHELVED" = some (some (.int 20 tk_MOST_SHELVED)))
    (x_C_InputError : PySem.W.nsIn K mainGlobals "InputError" = some (some (.ref C_InputError)))
    (x_C_StateError : PySem.W.nsIn K mainGlobals "StateError" = some (some (.ref C_StateError)))
    (x_C_SizeError : PySem.W.nsIn K mainGlobals "SizeError" = some (some (.ref C_SizeError)))
    (x_C_InvalidNumber : PySem.W.nsIn K mainGlobals "InvalidNumber" = some (some (.ref C_InvalidNumber)))
    (x_C_InvalidMark : PySem.W.nsIn K mainGlobals "InvalidMark" = some (some (.ref C_InvalidMark)))
    (x_C_InvalidText : PySem.W.nsIn K mainGlobals "InvalidText" = some (some (.ref C_InvalidText)))
    (x_C_InvalidLength : PySem.W.nsIn K mainGlobals "InvalidLength" = some (some (.ref C_InvalidLength)))
    (x_C_InvalidRule : PySem.W.nsIn K mainGlobals "InvalidRule" = some (some (.ref C_InvalidRule)))
    (x_C_InvalidWidth : PySem.W.nsIn K mainGlobals "InvalidWidth" = some (some (.ref C_InvalidWidth)))
    (x_C_InvalidPlace : PySem.W.nsIn K mainGlobals "InvalidPlace" = some (some (.ref C_InvalidPlace)))
    (x_C_InvalidLine : PySem.W.nsIn K mainGlobals "InvalidLine" = some (some (.ref C_InvalidLine)))
    (x_C_NotANamer : PySem.W.nsIn K mainGlobals "NotANamer" = some (some (.ref C_NotANamer)))
    (x_C_NotAShelf : PySem.W.nsIn K mainGlobals "NotAShelf" = some (some (.ref C_NotAShelf)))
    (x_C_InvalidRow : PySem.W.nsIn K mainGlobals "InvalidRow" = some (some (.ref C_InvalidRow)))
    (x_C_InvalidViews : PySem.W.nsIn K mainGlobals "InvalidViews" = some (some (.ref C_InvalidViews)))
    (x_C_InvalidTexts : PySem.W.nsIn K mainGlobals "InvalidTexts" = some (some (.ref C_InvalidTexts)))
    (x_C_InvalidDeeds : PySem.W.nsIn K mainGlobals "InvalidDeeds" = some (some (.ref C_InvalidDeeds)))
    (x_C_NothingToUndo : PySem.W.nsIn K mainGlobals "NothingToUndo" = some (some (.ref C_NothingToUndo)))
    (x_C_Busy : PySem.W.nsIn K mainGlobals "Busy" = some (some (.ref C_Busy)))
    (x_C_UnknownName : PySem.W.nsIn K mainGlobals "UnknownName" = some (some (.ref C_UnknownName)))
    (x_C_TooMany : PySem.W.nsIn K mainGlobals "TooMany" = some (some (.ref C_TooMany)))
    (x_L_InvalidNumber : K.lookup C_InvalidNumber = some (excClassObj nm_InvalidNumber q_InvalidNumber C_InvalidNumber N_InvalidNumber bs_InvalidNumber bm_InvalidNumber true sn_InvalidNumber sub_InvalidNumber ab_InvalidNumber col_InvalidNumber dd_InvalidNumber e0_InvalidNumber e1_InvalidNumber e2_InvalidNumber e3_InvalidNumber e5_InvalidNumber "ValueError.__new__"))
    (x_me_R_InvalidNumber : PySem.HandSPX.refsVE bm_InvalidNumber = true)
    (x_xs_InvalidNumber : PySem.W.findIn K (.ref C_InvalidNumber) "__setattr__" = some (some (.builtin "object.__setattr__")))
    (x_xe_InvalidNumber : PySem.W.subIn K (.ref C_InvalidNumber) (.type "BaseException") = some true)
    (x_xt_InvalidNumber : PySem.W.typeIn K (.ref C_InvalidNumber) = some (.type "type"))
    (x_xk_InvalidNumber : PySem.W.keepIn K (.ref C_InvalidNumber) = true)
    (x_na_InvalidNumber_value : PySem.W.findIn K (.ref C_InvalidNumber) "value" = some none)
    (x_a_InvalidNumber___init__ : PySem.W.findIn K (.ref C_InvalidNumber) "__init__" = some (some (.ref f_InvalidNumber___init__)))
    (x_j_InvalidNumber___init__ : PySem.W.typeIn K (.ref f_InvalidNumber___init__) = some (.type "function"))
    (x_i_InvalidNumber___init__ : PySem.W.isFn K (.ref f_InvalidNumber___init__) = true)
    (x_l_InvalidNumber___init__ : K.lookup f_InvalidNumber___init__ = some ⟨oc_InvalidNumber___init__, od_InvalidNumber___init__, .func (PySem.W.fnOf "__init__" "InvalidNumber.__init__" (L2.defArgs s_InvalidNumber___init__) (L2.defBody s_InvalidNumber___init__) (L2.defScope s_InvalidNumber___init__) .none kV_InvalidNumber___init__ dc_InvalidNumber___init__ pm_InvalidNumber___init__ an_InvalidNumber___init__ cd_InvalidNumber___init__ ct_InvalidNumber___init__), sl_InvalidNumber___init__⟩)
    (x_c_InvalidNumber___init__ : PySem.W.codeIn K cd_InvalidNumber___init__ "InvalidNumber.__init__" = true)
    (x_k_InvalidNumber___init__ : PySem.W.keepIn K (.ref f_InvalidNumber___init__) = true)
    (x_L_InvalidMark : K.lookup C_InvalidMark = some (excClassObj nm_InvalidMark q_InvalidMark C_InvalidMark N_InvalidMark bs_InvalidMark bm_InvalidMark true sn_InvalidMark sub_InvalidMark ab_InvalidMark col_InvalidMark dd_InvalidMark e0_InvalidMark e1_InvalidMark e2_InvalidMark e3_InvalidMark e5_InvalidMark "ValueError.__new__"))
    (x_me_R_InvalidMark : PySem.HandSPX.refsVE bm_InvalidMark = true)
    (x_xs_InvalidMark : PySem.W.findIn K (.ref C_InvalidMark) "__setattr__" = some (some (.builtin "object.__setattr__")))
    (x_xe_InvalidMark : PySem.W.subIn K (.ref C_InvalidMark) (.type "BaseException") = some true)
    (x_xt_InvalidMark : PySem.W.typeIn K (.ref C_InvalidMark) = some (.type "type"))
    (x_xk_InvalidMark : PySem.W.keepIn K (.ref C_InvalidMark) = true)
    (x_na_InvalidMark_value : PySem.W.findIn K (.ref C_InvalidMark) "value" = some none)
    (x_a_InvalidMark___init__ : PySem.W.findIn K (.ref C_InvalidMark) "__init__" = some (some (.ref f_InvalidMark___init__)))
    (x_j_InvalidMark___init__ : PySem.W.typeIn K (.ref f_InvalidMark___init__) = some (.type "function"))
    (x_i_InvalidMark___init__ : PySem.W.isFn K (.ref f_InvalidMark___init__) = true)
    (x_l_InvalidMark___init__ : K.lookup f_InvalidMark___init__ = some ⟨oc_InvalidMark___init__, od_InvalidMark___init__, .func (PySem.W.fnOf "__init__" "InvalidMark.__init__" (L2.defArgs s_InvalidMark___init__) (L2.defBody s_InvalidMark___init__) (L2.defScope s_InvalidMark___init__) .none kV_InvalidMark___init__ dc_InvalidMark___init__ pm_InvalidMark___init__ an_InvalidMark___init__ cd_InvalidMark___init__ ct_InvalidMark___init__), sl_InvalidMark___init__⟩)
    (x_c_InvalidMark___init__ : PySem.W.codeIn K cd_InvalidMark___init__ "InvalidMark.__init__" = true)
    (x_k_InvalidMark___init__ : PySem.W.keepIn K (.ref f_InvalidMark___init__) = true)
    (x_L_InvalidText : K.lookup C_InvalidText = some (excClassObj nm_InvalidText q_InvalidText C_InvalidText N_InvalidText bs_InvalidText bm_InvalidText true sn_InvalidText sub_InvalidText ab_InvalidText col_InvalidText dd_InvalidText e0_InvalidText e1_InvalidText e2_InvalidText e3_InvalidText e5_InvalidText "ValueError.__new__"))
    (x_me_R_InvalidText : PySem.HandSPX.refsVE bm_InvalidText = true)
    (x_xs_InvalidText : PySem.W.findIn K (.ref C_InvalidText) "__setattr__" = some (some (.builtin "object.__setattr__")))
    (x_xe_InvalidText : PySem.W.subIn K (.ref C_InvalidText) (.type "BaseException") = some true)
    (x_xt_InvalidText : PySem.W.typeIn K (.ref C_InvalidText) = some (.type "type"))
    (x_xk_InvalidText : PySem.W.keepIn K (.ref C_InvalidText) = true)
    (x_na_InvalidText_value : PySem.W.findIn K (.ref C_InvalidText) "value" = some none)
    (x_a_InvalidText___init__ : PySem.W.findIn K (.ref C_InvalidText) "__init__" = some (some (.ref f_InvalidText___init__)))
    (x_j_InvalidText___init__ : PySem.W.typeIn K (.ref f_InvalidText___init__) = some (.type "function"))
    (x_i_InvalidText___init__ : PySem.W.isFn K (.ref f_InvalidText___init__) = true)
    (x_l_InvalidText___init__ : K.lookup f_InvalidText___init__ = some ⟨oc_InvalidText___init__, od_InvalidText___init__, .func (PySem.W.fnOf "__init__" "InvalidText.__init__" (L2.defArgs s_InvalidText___init__) (L2.defBody s_InvalidText___init__) (L2.defScope s_InvalidText___init__) .none kV_InvalidText___init__ dc_InvalidText___init__ pm_InvalidText___init__ an_InvalidText___init__ cd_InvalidText___init__ ct_InvalidText___init__), sl_InvalidText___init__⟩)
    (x_c_InvalidText___init__ : PySem.W.codeIn K cd_InvalidText___init__ "InvalidText.__init__" = true)
    (x_k_InvalidText___init__ : PySem.W.keepIn K (.ref f_InvalidText___init__) = true)
    (x_L_InvalidLength : K.lookup C_InvalidLength = some (excClassObj nm_InvalidLength q_InvalidLength C_InvalidLength N_InvalidLength bs_InvalidLength bm_InvalidLength true sn_InvalidLength sub_InvalidLength ab_InvalidLength col_InvalidLength dd_InvalidLength e0_InvalidLength e1_InvalidLength e2_InvalidLength e3_InvalidLength e5_InvalidLength "ValueError.__new__"))
    (x_me_R_InvalidLength : PySem.HandSPX.refsVE bm_InvalidLength = true)
    (x_xs_InvalidLength : PySem.W.findIn K (.ref C_InvalidLength) "__setattr__" = some (some (.builtin "object.__setattr__")))
    (x_xe_InvalidLength : PySem.W.subIn K (.ref C_InvalidLength) (.type "BaseException") = some true)
    (x_xt_InvalidLength : PySem.W.typeIn K (.ref C_InvalidLength) = some (.type "type"))
    (x_xk_InvalidLength : PySem.W.keepIn K (.ref C_InvalidLength) = true)
    (x_na_InvalidLength_value : PySem.W.findIn K (.ref C_InvalidLength) "value" = some none)
    (x_a_InvalidLength___init__ : PySem.W.findIn K (.ref C_InvalidLength) "__init__" = some (some (.ref f_InvalidLength___init__)))
    (x_j_InvalidLength___init__ : PySem.W.typeIn K (.ref f_InvalidLength___init__) = some (.type "function"))
    (x_i_InvalidLength___init__ : PySem.W.isFn K (.ref f_InvalidLength___init__) = true)
    (x_l_InvalidLength___init__ : K.lookup f_InvalidLength___init__ = some ⟨oc_InvalidLength___init__, od_InvalidLength___init__, .func (PySem.W.fnOf "__init__" "InvalidLength.__init__" (L2.defArgs s_InvalidLength___init__) (L2.defBody s_InvalidLength___init__) (L2.defScope s_InvalidLength___init__) .none kV_InvalidLength___init__ dc_InvalidLength___init__ pm_InvalidLength___init__ an_InvalidLength___init__ cd_InvalidLength___init__ ct_InvalidLength___init__), sl_InvalidLength___init__⟩)
    (x_c_InvalidLength___init__ : PySem.W.codeIn K cd_InvalidLength___init__ "InvalidLength.__init__" = true)
    (x_k_InvalidLength___init__ : PySem.W.keepIn K (.ref f_InvalidLength___init__) = true)
    (x_L_InvalidRule : K.lookup C_InvalidRule = some (excClassObj nm_InvalidRule q_InvalidRule C_InvalidRule N_InvalidRule bs_InvalidRule bm_InvalidRule true sn_InvalidRule sub_InvalidRule ab_InvalidRule col_InvalidRule dd_InvalidRule e0_InvalidRule e1_InvalidRule e2_InvalidRule e3_InvalidRule e5_InvalidRule "ValueError.__new__"))
    (x_me_R_InvalidRule : PySem.HandSPX.refsVE bm_InvalidRule = true)
    (x_xs_InvalidRule : PySem.W.findIn K (.ref C_InvalidRule) "__setattr__" = some (some (.builtin "object.__setattr__")))
    (x_xe_InvalidRule : PySem.W.subIn K (.ref C_InvalidRule) (.type "BaseException") = some true)
    (x_xt_InvalidRule : PySem.W.typeIn K (.ref C_InvalidRule) = some (.type "type"))
    (x_xk_InvalidRule : PySem.W.keepIn K (.ref C_InvalidRule) = true)
    (x_na_InvalidRule_value : PySem.W.findIn K (.ref C_InvalidRule) "value" = some none)
    (x_a_InvalidRule___init__ : PySem.W.findIn K (.ref C_InvalidRule) "__init__" = some (some (.ref f_InvalidRule___init__)))
    (x_j_InvalidRule___init__ : PySem.W.typeIn K (.ref f_InvalidRule___init__) = some (.type "function"))
    (x_i_InvalidRule___init__ : PySem.W.isFn K (.ref f_InvalidRule___init__) = true)
    (x_l_InvalidRule___init__ : K.lookup f_InvalidRule___init__ = some ⟨oc_InvalidRule___init__, od_InvalidRule___init__, .func (PySem.W.fnOf "__init__" "InvalidRule.__init__" (L2.defArgs s_InvalidRule___init__) (L2.defBody s_InvalidRule___init__) (L2.defScope s_InvalidRule___init__) .none kV_InvalidRule___init__ dc_InvalidRule___init__ pm_InvalidRule___init__ an_InvalidRule___init__ cd_InvalidRule___init__ ct_InvalidRule___init__), sl_InvalidRule___init__⟩)
    (x_c_InvalidRule___init__ : PySem.W.codeIn K cd_InvalidRule___init__ "InvalidRule.__init__" = true)
    (x_k_InvalidRule___init__ : PySem.W.keepIn K (.ref f_InvalidRule___init__) = true)
    (x_L_InvalidWidth : K.lookup C_InvalidWidth = some (excClassObj nm_InvalidWidth q_InvalidWidth C_InvalidWidth N_InvalidWidth bs_InvalidWidth bm_InvalidWidth true sn_InvalidWidth sub_InvalidWidth ab_InvalidWidth col_InvalidWidth dd_InvalidWidth e0_InvalidWidth e1_InvalidWidth e2_InvalidWidth e3_InvalidWidth e5_InvalidWidth "ValueError.__new__"))
    (x_me_R_InvalidWidth : PySem.HandSPX.refsVE bm_InvalidWidth = true)
    (x_xs_InvalidWidth : PySem.W.findIn K (.ref C_InvalidWidth) "__setattr__" = some (some (.builtin "object.__setattr__")))
    (x_xe_InvalidWidth : PySem.W.subIn K (.ref C_InvalidWidth) (.type "BaseException") = some true)
    (x_xt_InvalidWidth : PySem.W.typeIn K (.ref C_InvalidWidth) = some (.type "type"))
    (x_xk_InvalidWidth : PySem.W.keepIn K (.ref C_InvalidWidth) = true)
    (x_na_InvalidWidth_value : PySem.W.findIn K (.ref C_InvalidWidth) "value" = some none)
    (x_a_InvalidWidth___init__ : PySem.W.findIn K (.ref C_InvalidWidth) "__init__" = some (some (.ref f_InvalidWidth___init__)))
    (x_j_InvalidWidth___init__ : PySem.W.typeIn K (.ref f_InvalidWidth___init__) = some (.type "function"))
    (x_i_InvalidWidth___init__ : PySem.W.isFn K (.ref f_InvalidWidth___init__) = true)
    (x_l_InvalidWidth___init__ : K.lookup f_InvalidWidth___init__ = some ⟨oc_InvalidWidth___init__, od_InvalidWidth___init__, .func (PySem.W.fnOf "__init__" "InvalidWidth.__init__" (L2.defArgs s_InvalidWidth___init__) (L2.defBody s_InvalidWidth___init__) (L2.defScope s_InvalidWidth___init__) .none kV_InvalidWidth___init__ dc_InvalidWidth___init__ pm_InvalidWidth___init__ an_InvalidWidth___init__ cd_InvalidWidth___init__ ct_InvalidWidth___init__), sl_InvalidWidth___init__⟩)
    (x_c_InvalidWidth___init__ : PySem.W.codeIn K cd_InvalidWidth___init__ "InvalidWidth.__init__" = true)
    (x_k_InvalidWidth___init__ : PySem.W.keepIn K (.ref f_InvalidWidth___init__) = true)
    (x_L_InvalidPlace : K.lookup C_InvalidPlace = some (excClassObj nm_InvalidPlace q_InvalidPlace C_InvalidPlace N_InvalidPlace bs_InvalidPlace bm_InvalidPlace true sn_InvalidPlace sub_InvalidPlace ab_InvalidPlace col_InvalidPlace dd_InvalidPlace e0_InvalidPlace e1_InvalidPlace e2_InvalidPlace e3_InvalidPlace e5_InvalidPlace "ValueError.__new__"))
    (x_me_R_InvalidPlace : PySem.HandSPX.refsVE bm_InvalidPlace = true)
    (x_xs_InvalidPlace : PySem.W.findIn K (.ref C_InvalidPlace) "__setattr__" = some (some (.builtin "object.__setattr__")))
    (x_xe_InvalidPlace : PySem.W.subIn K (.ref C_InvalidPlace) (.type "BaseException") = some true)
    (x_xt_InvalidPlace : PySem.W.typeIn K (.ref C_InvalidPlace) = some (.type "type"))
    (x_xk_InvalidPlace : PySem.W.keepIn K (.ref C_InvalidPlace) = true)
    (x_na_InvalidPlace_value : PySem.W.findIn K (.ref C_InvalidPlace) "value" = some none)
    (x_a_InvalidPlace___init__ : PySem.W.findIn K (.ref C_InvalidPlace) "__init__" = some (some (.ref f_InvalidPlace___init__)))
    (x_j_InvalidPlace___init__ : PySem.W.typeIn K (.ref f_InvalidPlace___init__) = some (.type "function"))
    (x_i_InvalidPlace___init__ : PySem.W.isFn K (.ref f_InvalidPlace___init__) = true)
    (x_l_InvalidPlace___init__ : K.lookup f_InvalidPlace___init__ = some ⟨oc_InvalidPlace___init__, od_InvalidPlace___init__, .func (PySem.W.fnOf "__init__" "InvalidPlace.__init__" (L2.defArgs s_InvalidPlace___init__) (L2.defBody s_InvalidPlace___init__) (L2.defScope s_InvalidPlace___init__) .none kV_InvalidPlace___init__ dc_InvalidPlace___init__ pm_InvalidPlace___init__ an_InvalidPlace___init__ cd_InvalidPlace___init__ ct_InvalidPlace___init__), sl_InvalidPlace___init__⟩)
    (x_c_InvalidPlace___init__ : PySem.W.codeIn K cd_InvalidPlace___init__ "InvalidPlace.__init__" = true)
    (x_k_InvalidPlace___init__ : PySem.W.keepIn K (.ref f_InvalidPlace___init__) = true)
    (x_L_InvalidLine : K.lookup C_InvalidLine = some (excClassObj nm_InvalidLine q_InvalidLine C_InvalidLine N_InvalidLine bs_InvalidLine bm_InvalidLine true sn_InvalidLine sub_InvalidLine ab_InvalidLine col_InvalidLine dd_InvalidLine e0_InvalidLine e1_InvalidLine e2_InvalidLine e3_InvalidLine e5_InvalidLine "ValueError.__new__"))
    (x_me_R_InvalidLine : PySem.HandSPX.refsVE bm_InvalidLine = true)
    (x_xs_InvalidLine : PySem.W.findIn K (.ref C_InvalidLine) "__setattr__" = some (some (.builtin "object.__setattr__")))
    (x_xe_InvalidLine : PySem.W.subIn K (.ref C_InvalidLine) (.type "BaseException") = some true)
    (x_xt_InvalidLine : PySem.W.typeIn K (.ref C_InvalidLine) = some (.type "type"))
    (x_xk_InvalidLine : PySem.W.keepIn K (.ref C_InvalidLine) = true)
    (x_na_InvalidLine_value : PySem.W.findIn K (.ref C_InvalidLine) "value" = some none)
    (x_a_InvalidLine___init__ : PySem.W.findIn K (.ref C_InvalidLine) "__init__" = some (some (.ref f_InvalidLine___init__)))
    (x_j_InvalidLine___init__ : PySem.W.typeIn K (.ref f_InvalidLine___init__) = some (.type "function"))
    (x_i_InvalidLine___init__ : PySem.W.isFn K (.ref f_InvalidLine___init__) = true)
    (x_l_InvalidLine___init__ : K.lookup f_InvalidLine___init__ = some ⟨oc_InvalidLine___init__, od_InvalidLine___init__, .func (PySem.W.fnOf "__init__" "InvalidLine.__init__" (L2.defArgs s_InvalidLine___init__) (L2.defBody s_InvalidLine___init__) (L2.defScope s_InvalidLine___init__) .none kV_InvalidLine___init__ dc_InvalidLine___init__ pm_InvalidLine___init__ an_InvalidLine___init__ cd_InvalidLine___init__ ct_InvalidLine___init__), sl_InvalidLine___init__⟩)
    (x_c_InvalidLine___init__ : PySem.W.codeIn K cd_InvalidLine___init__ "InvalidLine.__init__" = true)
    (x_k_InvalidLine___init__ : PySem.W.keepIn K (.ref f_InvalidLine___init__) = true)
    (x_L_NotANamer : K.lookup C_NotANamer = some (excClassObj nm_NotANamer q_NotANamer C_NotANamer N_NotANamer bs_NotANamer bm_NotANamer true sn_NotANamer sub_NotANamer ab_NotANamer col_NotANamer dd_NotANamer e0_NotANamer e1_NotANamer e2_NotANamer e3_NotANamer e5_NotANamer "ValueError.__new__"))
    (x_me_R_NotANamer : PySem.HandSPX.refsVE bm_NotANamer = true)
    (x_xs_NotANamer : PySem.W.findIn K (.ref C_NotANamer) "__setattr__" = some (some (.builtin "object.__setattr__")))
    (x_xe_NotANamer : PySem.W.subIn K (.ref C_NotANamer) (.type "BaseException") = some true)
    (x_xt_NotANamer : PySem.W.typeIn K (.ref C_NotANamer) = some (.type "type"))
    (x_xk_NotANamer : PySem.W.keepIn K (.ref C_NotANamer) = true)
    (x_na_NotANamer_value : PySem.W.findIn K (.ref C_NotANamer) "value" = some none)
    (x_a_NotANamer___init__ : PySem.W.findIn K (.ref C_NotANamer) "__init__" = some (some (.ref f_NotANamer___init__)))
    (x_j_NotANamer___init__ : PySem.W.typeIn K (.ref f_NotANamer___init__) = some (.type "function"))
    (x_i_NotANamer___init__ : PySem.W.isFn K (.ref f_NotANamer___init__) = true)
    (x_l_NotANamer___init__ : K.lookup f_NotANamer___init__ = some ⟨oc_NotANamer___init__, od_NotANamer___init__, .func (PySem.W.fnOf "__init__" "NotANamer.__init__" (L2.defArgs s_NotANamer___init__) (L2.defBody s_NotANamer___init__) (L2.defScope s_NotANamer___init__) .none kV_NotANamer___init__ dc_NotANamer___init__ pm_NotANamer___init__ an_NotANamer___init__ cd_NotANamer___init__ ct_NotANamer___init__), sl_NotANamer___init__⟩)
    (x_c_NotANamer___init__ : PySem.W.codeIn K cd_NotANamer___init__ "NotANamer.__init__" = true)
    (x_k_NotANamer___init__ : PySem.W.keepIn K (.ref f_NotANamer___init__) = true)
    (x_L_NotAShelf : K.lookup C_NotAShelf = some (excClassObj nm_NotAShelf q_NotAShelf C_NotAShelf N_NotAShelf bs_NotAShelf bm_NotAShelf true sn_NotAShelf sub_NotAShelf ab_NotAShelf col_NotAShelf dd_NotAShelf e0_NotAShelf e1_NotAShelf e2_NotAShelf e3_NotAShelf e5_NotAShelf "ValueError.__new__"))
    (x_me_R_NotAShelf : PySem.HandSPX.refsVE bm_NotAShelf = true)
    (x_xs_NotAShelf : PySem.W.findIn K (.ref C_NotAShelf) "__setattr__" = some (some (.builtin "object.__setattr__")))
    (x_xe_NotAShelf : PySem.W.subIn K (.ref C_NotAShelf) (.type "BaseException") = some true)
    (x_xt_NotAShelf : PySem.W.typeIn K (.ref C_NotAShelf) = some (.type "type"))
    (x_xk_NotAShelf : PySem.W.keepIn K (.ref C_NotAShelf) = true)
    (x_na_NotAShelf_value : PySem.W.findIn K (.ref C_NotAShelf) "value" = some none)
    (x_a_NotAShelf___init__ : PySem.W.findIn K (.ref C_NotAShelf) "__init__" = some (some (.ref f_NotAShelf___init__)))
    (x_j_NotAShelf___init__ : PySem.W.typeIn K (.ref f_NotAShelf___init__) = some (.type "function"))
    (x_i_NotAShelf___init__ : PySem.W.isFn K (.ref f_NotAShelf___init__) = true)
    (x_l_NotAShelf___init__ : K.lookup f_NotAShelf___init__ = some ⟨oc_NotAShelf___init__, od_NotAShelf___init__, .func (PySem.W.fnOf "__init__" "NotAShelf.__init__" (L2.defArgs s_NotAShelf___init__) (L2.defBody s_NotAShelf___init__) (L2.defScope s_NotAShelf___init__) .none kV_NotAShelf___init__ dc_NotAShelf___init__ pm_NotAShelf___init__ an_NotAShelf___init__ cd_NotAShelf___init__ ct_NotAShelf___init__), sl_NotAShelf___init__⟩)
    (x_c_NotAShelf___init__ : PySem.W.codeIn K cd_NotAShelf___init__ "NotAShelf.__init__" = true)
    (x_k_NotAShelf___init__ : PySem.W.keepIn K (.ref f_NotAShelf___init__) = true)
    (x_L_InvalidRow : K.lookup C_InvalidRow = some (excClassObj nm_InvalidRow q_InvalidRow C_InvalidRow N_InvalidRow bs_InvalidRow bm_InvalidRow true sn_InvalidRow sub_InvalidRow ab_InvalidRow col_InvalidRow dd_InvalidRow e0_InvalidRow e1_InvalidRow e2_InvalidRow e3_InvalidRow e5_InvalidRow "ValueError.__new__"))
    (x_me_R_InvalidRow : PySem.HandSPX.refsVE bm_InvalidRow = true)
    (x_xs_InvalidRow : PySem.W.findIn K (.ref C_InvalidRow) "__setattr__" = some (some (.builtin "object.__setattr__")))
    (x_xe_InvalidRow : PySem.W.subIn K (.ref C_InvalidRow) (.type "BaseException") = some true)
    (x_xt_InvalidRow : PySem.W.typeIn K (.ref C_InvalidRow) = some (.type "type"))
    (x_xk_InvalidRow : PySem.W.keepIn K (.ref C_InvalidRow) = true)
    (x_na_InvalidRow_index : PySem.W.findIn K (.ref C_InvalidRow) "index" = some none)
    (x_a_InvalidRow___init__ : PySem.W.findIn K (.ref C_InvalidRow) "__init__" = some (some (.ref f_InvalidRow___init__)))
    (x_j_InvalidRow___init__ : PySem.W.typeIn K (.ref f_InvalidRow___init__) = some (.type "function"))
    (x_i_InvalidRow___init__ : PySem.W.isFn K (.ref f_InvalidRow___init__) = true)
    (x_l_InvalidRow___init__ : K.lookup f_InvalidRow___init__ = some ⟨oc_InvalidRow___init__, od_InvalidRow___init__, .func (PySem.W.fnOf "__init__" "InvalidRow.__init__" (L2.defArgs s_InvalidRow___init__) (L2.defBody s_InvalidRow___init__) (L2.defScope s_InvalidRow___init__) .none kV_InvalidRow___init__ dc_InvalidRow___init__ pm_InvalidRow___init__ an_InvalidRow___init__ cd_InvalidRow___init__ ct_InvalidRow___init__), sl_InvalidRow___init__⟩)
    (x_c_InvalidRow___init__ : PySem.W.codeIn K cd_InvalidRow___init__ "InvalidRow.__init__" = true)
    (x_k_InvalidRow___init__ : PySem.W.keepIn K (.ref f_InvalidRow___init__) = true)
    (x_L_InvalidViews : K.lookup C_InvalidViews = some (excClassObj nm_InvalidViews q_InvalidViews C_InvalidViews N_InvalidViews bs_InvalidViews bm_InvalidViews true sn_InvalidViews sub_InvalidViews ab_InvalidViews col_InvalidViews dd_InvalidViews e0_InvalidViews e1_InvalidViews e2_InvalidViews e3_InvalidViews e5_InvalidViews "ValueError.__new__"))
    (x_me_R_InvalidViews : PySem.HandSPX.refsVE bm_InvalidViews = true)
    (x_xs_InvalidViews : PySem.W.findIn K (.ref C_InvalidViews) "__setattr__" = some (some (.builtin "object.__setattr__")))
    (x_xe_InvalidViews : PySem.W.subIn K (.ref C_InvalidViews) (.type "BaseException") = some true)
    (x_xt_InvalidViews : PySem.W.typeIn K (.ref C_InvalidViews) = some (.type "type"))
    (x_xk_InvalidViews : PySem.W.keepIn K (.ref C_InvalidViews) = true)
    (x_na_InvalidViews_index : PySem.W.findIn K (.ref C_InvalidViews) "index" = some none)
    (x_a_InvalidViews___init__ : PySem.W.findIn K (.ref C_InvalidViews) "__init__" = some (some (.ref f_InvalidViews___init__)))
    (x_j_InvalidViews___init__ : PySem.W.typeIn K (.ref f_InvalidViews___init__) = some (.type "function"))
    (x_i_InvalidViews___init__ : PySem.W.isFn K (.ref f_InvalidViews___init__) = true)
    (x_l_InvalidViews___init__ : K.lookup f_InvalidViews___init__ = some ⟨oc_InvalidViews___init__, od_InvalidViews___init__, .func (PySem.W.fnOf "__init__" "InvalidViews.__init__" (L2.defArgs s_InvalidViews___init__) (L2.defBody s_InvalidViews___init__) (L2.defScope s_InvalidViews___init__) .none kV_InvalidViews___init__ dc_InvalidViews___init__ pm_InvalidViews___init__ an_InvalidViews___init__ cd_InvalidViews___init__ ct_InvalidViews___init__), sl_InvalidViews___init__⟩)
    (x_c_InvalidViews___init__ : PySem.W.codeIn K cd_InvalidViews___init__ "InvalidViews.__init__" = true)
    (x_k_InvalidViews___init__ : PySem.W.keepIn K (.ref f_InvalidViews___init__) = true)
    (x_L_InvalidTexts : K.lookup C_InvalidTexts = some (excClassObj nm_InvalidTexts q_InvalidTexts C_InvalidTexts N_InvalidTexts bs_InvalidTexts bm_InvalidTexts true sn_InvalidTexts sub_InvalidTexts ab_InvalidTexts col_InvalidTexts dd_InvalidTexts e0_InvalidTexts e1_InvalidTexts e2_InvalidTexts e3_InvalidTexts e5_InvalidTexts "ValueError.__new__"))
    (x_me_R_InvalidTexts : PySem.HandSPX.refsVE bm_InvalidTexts = true)
    (x_xs_InvalidTexts : PySem.W.findIn K (.ref C_InvalidTexts) "__setattr__" = some (some (.builtin "object.__setattr__")))
    (x_xe_InvalidTexts : PySem.W.subIn K (.ref C_InvalidTexts) (.type "BaseException") = some true)
    (x_xt_InvalidTexts : PySem.W.typeIn K (.ref C_InvalidTexts) = some (.type "type"))
    (x_xk_InvalidTexts : PySem.W.keepIn K (.ref C_InvalidTexts) = true)
    (x_na_InvalidTexts_index : PySem.W.findIn K (.ref C_InvalidTexts) "index" = some none)
    (x_a_InvalidTexts___init__ : PySem.W.findIn K (.ref C_InvalidTexts) "__init__" = some (some (.ref f_InvalidTexts___init__)))
    (x_j_InvalidTexts___init__ : PySem.W.typeIn K (.ref f_InvalidTexts___init__) = some (.type "function"))
    (x_i_InvalidTexts___init__ : PySem.W.isFn K (.ref f_InvalidTexts___init__) = true)
    (x_l_InvalidTexts___init__ : K.lookup f_InvalidTexts___init__ = some ⟨oc_InvalidTexts___init__, od_InvalidTexts___init__, .func (PySem.W.fnOf "__init__" "InvalidTexts.__init__" (L2.defArgs s_InvalidTexts___init__) (L2.defBody s_InvalidTexts___init__) (L2.defScope s_InvalidTexts___init__) .none kV_InvalidTexts___init__ dc_InvalidTexts___init__ pm_InvalidTexts___init__ an_InvalidTexts___init__ cd_InvalidTexts___init__ ct_InvalidTexts___init__), sl_InvalidTexts___init__⟩)
    (x_c_InvalidTexts___init__ : PySem.W.codeIn K cd_InvalidTexts___init__ "InvalidTexts.__init__" = true)
    (x_k_InvalidTexts___init__ : PySem.W.keepIn K (.ref f_InvalidTexts___init__) = true)
    (x_L_InvalidDeeds : K.lookup C_InvalidDeeds = some (excClassObj nm_InvalidDeeds q_InvalidDeeds C_InvalidDeeds N_InvalidDeeds bs_InvalidDeeds bm_InvalidDeeds true sn_InvalidDeeds sub_InvalidDeeds ab_InvalidDeeds col_InvalidDeeds dd_InvalidDeeds e0_InvalidDeeds e1_InvalidDeeds e2_InvalidDeeds e3_InvalidDeeds e5_InvalidDeeds "ValueError.__new__"))
    (x_me_R_InvalidDeeds : PySem.HandSPX.refsVE bm_InvalidDeeds = true)
    (x_xs_InvalidDeeds : PySem.W.findIn K (.ref C_InvalidDeeds) "__setattr__" = some (some (.builtin "object.__setattr__")))
    (x_xe_InvalidDeeds : PySem.W.subIn K (.ref C_InvalidDeeds) (.type "BaseException") = some true)
    (x_xt_InvalidDeeds : PySem.W.typeIn K (.ref C_InvalidDeeds) = some (.type "type"))
    (x_xk_InvalidDeeds : PySem.W.keepIn K (.ref C_InvalidDeeds) = true)
    (x_na_InvalidDeeds_index : PySem.W.findIn K (.ref C_InvalidDeeds) "index" = some none)
    (x_a_InvalidDeeds___init__ : PySem.W.findIn K (.ref C_InvalidDeeds) "__init__" = some (some (.ref f_InvalidDeeds___init__)))
    (x_j_InvalidDeeds___init__ : PySem.W.typeIn K (.ref f_InvalidDeeds___init__) = some (.type "function"))
    (x_i_InvalidDeeds___init__ : PySem.W.isFn K (.ref f_InvalidDeeds___init__) = true)
    (x_l_InvalidDeeds___init__ : K.lookup f_InvalidDeeds___init__ = some ⟨oc_InvalidDeeds___init__, od_InvalidDeeds___init__, .func (PySem.W.fnOf "__init__" "InvalidDeeds.__init__" (L2.defArgs s_InvalidDeeds___init__) (L2.defBody s_InvalidDeeds___init__) (L2.defScope s_InvalidDeeds___init__) .none kV_InvalidDeeds___init__ dc_InvalidDeeds___init__ pm_InvalidDeeds___init__ an_InvalidDeeds___init__ cd_InvalidDeeds___init__ ct_InvalidDeeds___init__), sl_InvalidDeeds___init__⟩)
    (x_c_InvalidDeeds___init__ : PySem.W.codeIn K cd_InvalidDeeds___init__ "InvalidDeeds.__init__" = true)
    (x_k_InvalidDeeds___init__ : PySem.W.keepIn K (.ref f_InvalidDeeds___init__) = true)
    (x_L_UnknownName : K.lookup C_UnknownName = some (excClassObj nm_UnknownName q_UnknownName C_UnknownName N_UnknownName bs_UnknownName bm_UnknownName true sn_UnknownName sub_UnknownName ab_UnknownName col_UnknownName dd_UnknownName e0_UnknownName e1_UnknownName e2_UnknownName e3_UnknownName e5_UnknownName "LookupError.__new__"))
    (x_me_R_UnknownName : V.refsB V.tlLookup bm_UnknownName = true)
    (x_xs_UnknownName : PySem.W.findIn K (.ref C_UnknownName) "__setattr__" = some (some (.builtin "object.__setattr__")))
    (x_xe_UnknownName : PySem.W.subIn K (.ref C_UnknownName) (.type "BaseException") = some true)
    (x_xt_UnknownName : PySem.W.typeIn K (.ref C_UnknownName) = some (.type "type"))
    (x_xk_UnknownName : PySem.W.keepIn K (.ref C_UnknownName) = true)
    (x_na_UnknownName_value : PySem.W.findIn K (.ref C_UnknownName) "value" = some none)
    (x_a_UnknownName___init__ : PySem.W.findIn K (.ref C_UnknownName) "__init__" = some (some (.ref f_UnknownName___init__)))
    (x_j_UnknownName___init__ : PySem.W.typeIn K (.ref f_UnknownName___init__) = some (.type "function"))
    (x_i_UnknownName___init__ : PySem.W.isFn K (.ref f_UnknownName___init__) = true)
    (x_l_UnknownName___init__ : K.lookup f_UnknownName___init__ = some ⟨oc_UnknownName___init__, od_UnknownName___init__, .func (PySem.W.fnOf "__init__" "UnknownName.__init__" (L2.defArgs s_UnknownName___init__) (L2.defBody s_UnknownName___init__) (L2.defScope s_UnknownName___init__) .none kV_UnknownName___init__ dc_UnknownName___init__ pm_UnknownName___init__ an_UnknownName___init__ cd_UnknownName___init__ ct_UnknownName___init__), sl_UnknownName___init__⟩)
    (x_c_UnknownName___init__ : PySem.W.codeIn K cd_UnknownName___init__ "UnknownName.__init__" = true)
    (x_k_UnknownName___init__ : PySem.W.keepIn K (.ref f_UnknownName___init__) = true)
    (x_L_TooMany : K.lookup C_TooMany = some (excClassObj nm_TooMany q_TooMany C_TooMany N_TooMany bs_TooMany bm_TooMany true sn_TooMany sub_TooMany ab_TooMany col_TooMany dd_TooMany e0_TooMany e1_TooMany e2_TooMany e3_TooMany e5_TooMany "ArithmeticError.__new__"))
    (x_me_R_TooMany : V.refsB V.tlArith bm_TooMany = true)
    (x_xs_TooMany : PySem.W.findIn K (.ref C_TooMany) "__setattr__" = some (some (.builtin "object.__setattr__")))
    (x_xe_TooMany : PySem.W.subIn K (.ref C_TooMany) (.type "BaseException") = some true)
    (x_xt_TooMany : PySem.W.typeIn K (.ref C_TooMany) = some (.type "type"))
    (x_xk_TooMany : PySem.W.keepIn K (.ref C_TooMany) = true)
    (x_na_TooMany_limit : PySem.W.findIn K (.ref C_TooMany) "limit" = some none)
    (x_a_TooMany___init__ : PySem.W.findIn K (.ref C_TooMany) "__init__" = some (some (.ref f_TooMany___init__)))
    (x_j_TooMany___init__ : PySem.W.typeIn K (.ref f_TooMany___init__) = some (.type "function"))
    (x_i_TooMany___init__ : PySem.W.isFn K (.ref f_TooMany___init__) = true)
    (x_l_TooMany___init__ : K.lookup f_TooMany___init__ = some ⟨oc_TooMany___init__, od_TooMany___init__, .func (PySem.W.fnOf "__init__" "TooMany.__init__" (L2.defArgs s_TooMany___init__) (L2.defBody s_TooMany___init__) (L2.defScope s_TooMany___init__) .none kV_TooMany___init__ dc_TooMany___init__ pm_TooMany___init__ an_TooMany___init__ cd_TooMany___init__ ct_TooMany___init__), sl_TooMany___init__⟩)
    (x_c_TooMany___init__ : PySem.W.codeIn K cd_TooMany___init__ "TooMany.__init__" = true)
    (x_k_TooMany___init__ : PySem.W.keepIn K (.ref f_TooMany___init__) = true)
    (x_me_q_NothingToUndo : PySem.W.excIn K C_NothingToUndo V.tlLookup "LookupError.__new__" = true)
    (x_kq_NothingToUndo : PySem.W.keepIn K (.ref C_NothingToUndo) = true)
    (x_bq_NothingToUndo : PySem.W.subIn K (.ref C_NothingToUndo) (.type "BaseException") = some true)
    (x_tq_NothingToUndo : PySem.W.typeIn K (.ref C_NothingToUndo) = some (.type "type"))
    (x_me_q_Busy : PySem.W.excIn K C_Busy V.tlLookup "LookupError.__new__" = true)
    (x_kq_Busy : PySem.W.keepIn K (.ref C_Busy) = true)
    (x_bq_Busy : PySem.W.subIn K (.ref C_Busy) (.type "BaseException") = some true)
    (x_tq_Busy : PySem.W.typeIn K (.ref C_Busy) = some (.type "type"))
    (x_ga_InvalidNumber : PySem.W.findIn K (.ref C_InvalidNumber) "__getattribute__" = some (some (.builtin "BaseException.__getattribute__")))
    (x_gg_InvalidNumber : PySem.W.findIn K (.ref C_InvalidNumber) "__getattr__" = some none)
    (x_xd_InvalidNumber : PySem.W.hasDictIn K C_InvalidNumber = true)
    (x_xa_InvalidNumber : PySem.W.findIn K (.ref C_InvalidNumber) "__class__" = some (some (.builtin "object.__class__")))
    (x_xn_InvalidNumber : PySem.W.specialIn K (.builtin "object.__class__") "__get__" = some (some (.builtin "getset_descriptor.__get__")))
    (x_xq_InvalidNumber : PySem.W.takesIn K (.builtin "object.__class__") = some true)
    (x_xm_InvalidNumber : PySem.W.mroIn K C_InvalidNumber (.type "object") = some true)
    (x_me_kr_InvalidNumber_0 : PySem.W.kitOne K (.ref C_InvalidNumber) (.ref C_InvalidNumber) = some true)
    (x_me_kr_InvalidNumber_1 : PySem.W.kitOne K (.ref C_InvalidNumber) (.ref C_InvalidMark) = some false)
    (x_me_kr_InvalidNumber_2 : PySem.W.kitOne K (.ref C_InvalidNumber) (.ref C_InvalidText) = some false)
    (x_me_kr_InvalidNumber_3 : PySem.W.kitOne K (.ref C_InvalidNumber) (.ref C_InvalidLength) = some false)
    (x_me_kr_InvalidNumber_4 : PySem.W.kitOne K (.ref C_InvalidNumber) (.ref C_InvalidRule) = some false)
    (x_me_kr_InvalidNumber_5 : PySem.W.kitOne K (.ref C_InvalidNumber) (.ref C_InvalidWidth) = some false)
    (x_me_kr_InvalidNumber_6 : PySem.W.kitOne K (.ref C_InvalidNumber) (.ref C_InvalidPlace) = some false)
    (x_me_kr_InvalidNumber_7 : PySem.W.kitOne K (.ref C_InvalidNumber) (.ref C_InvalidLine) = some false)
    (x_me_kr_InvalidNumber_8 : PySem.W.kitOne K (.ref C_InvalidNumber) (.ref C_NotANamer) = some false)
    (x_me_kr_InvalidNumber_9 : PySem.W.kitOne K (.ref C_InvalidNumber) (.ref C_NotAShelf) = some false)
    (x_me_kr_InvalidNumber_10 : PySem.W.kitOne K (.ref C_InvalidNumber) (.ref C_InvalidRow) = some false)
    (x_me_kr_InvalidNumber_11 : PySem.W.kitOne K (.ref C_InvalidNumber) (.ref C_InvalidViews) = some false)
    (x_me_kr_InvalidNumber_12 : PySem.W.kitOne K (.ref C_InvalidNumber) (.ref C_InvalidTexts) = some false)
    (x_me_kr_InvalidNumber_13 : PySem.W.kitOne K (.ref C_InvalidNumber) (.ref C_InvalidDeeds) = some false)
    (x_me_kr_InvalidNumber_14 : PySem.W.kitOne K (.ref C_InvalidNumber) (.ref C_NothingToUndo) = some false)
    (x_me_kr_InvalidNumber_15 : PySem.W.kitOne K (.ref C_InvalidNumber) (.ref C_Busy) = some false)
    (x_me_kr_InvalidNumber_16 : PySem.W.kitOne K (.ref C_InvalidNumber) (.ref C_UnknownName) = some false)
    (x_me_kr_InvalidNumber_17 : PySem.W.kitOne K (.ref C_InvalidNumber) (.ref C_TooMany) = some false)
    (x_me_kr_InvalidNumber_18 : PySem.W.kitOne K (.ref C_InvalidNumber) (.ref C_InputError) = some true)
    (x_me_kr_InvalidNumber_19 : PySem.W.kitOne K (.ref C_InvalidNumber) (.ref C_StateError) = some false)
    (x_me_kr_InvalidNumber_20 : PySem.W.kitOne K (.ref C_InvalidNumber) (.ref C_SizeError) = some false)
    (x_me_kr_InvalidNumber_21 : PySem.W.kitOne K (.ref C_InvalidNumber) (.type "ValueError") = some true)
    (x_me_kr_InvalidNumber_22 : PySem.W.kitOne K (.ref C_InvalidNumber) (.type "LookupError") = some false)
    (x_me_kr_InvalidNumber_23 : PySem.W.kitOne K (.ref C_InvalidNumber) (.type "ArithmeticError") = some false)
    (x_ga_InvalidMark : PySem.W.findIn K (.ref C_InvalidMark) "__getattribute__" = some (some (.builtin "BaseException.__getattribute__")))
    (x_gg_InvalidMark : PySem.W.findIn K (.ref C_InvalidMark) "__getattr__" = some none)
    (x_xd_InvalidMark : PySem.W.hasDictIn K C_InvalidMark = true)
    (x_xa_InvalidMark : PySem.W.findIn K (.ref C_InvalidMark) "__class__" = some (some (.builtin "object.__class__")))
    (x_xn_InvalidMark : PySem.W.specialIn K (.builtin "object.__class__") "__get__" = some (some (.builtin "getset_descriptor.__get__")))
    (x_xq_InvalidMark : PySem.W.takesIn K (.builtin "object.__class__") = some true)
    (x_xm_InvalidMark : PySem.W.mroIn K C_InvalidMark (.type "object") = some true)
    (x_me_kr_InvalidMark_0 : PySem.W.kitOne K (.ref C_InvalidMark) (.ref C_InvalidNumber) = some false)
    (x_me_kr_InvalidMark_1 : PySem.W.kitOne K (.ref C_InvalidMark) (.ref C_InvalidMark) = some true)
    (x_me_kr_InvalidMark_2 : PySem.W.kitOne K (.ref C_InvalidMark) (.ref C_InvalidText) = some false)
    (x_me_kr_InvalidMark_3 : PySem.W.kitOne K (.ref C_InvalidMark) (.ref C_InvalidLength) = some false)
    (x_me_kr_InvalidMark_4 : PySem.W.kitOne K (.ref C_InvalidMark) (.ref C_InvalidRule) = some false)
    (x_me_kr_InvalidMark_5 : PySem.W.kitOne K (.ref C_InvalidMark) (.ref C_InvalidWidth) = some false)
    (x_me_kr_InvalidMark_6 : PySem.W.kitOne K (.ref C_InvalidMark) (.ref C_InvalidPlace) = some false)
    (x_me_kr_InvalidMark_7 : PySem.W.kitOne K (.ref C_InvalidMark) (.ref C_InvalidLine) = some false)
    (x_me_kr_InvalidMark_8 : PySem.W.kitOne K (.ref C_InvalidMark) (.ref C_NotANamer) = some false)
    (x_me_kr_InvalidMark_9 : PySem.W.kitOne K (.ref C_InvalidMark) (.ref C_NotAShelf) = some false)
    (x_me_kr_InvalidMark_10 : PySem.W.kitOne K (.ref C_InvalidMark) (.ref C_InvalidRow) = some false)
    (x_me_kr_InvalidMark_11 : PySem.W.kitOne K (.ref C_InvalidMark) (.ref C_InvalidViews) = some false)
    (x_me_kr_InvalidMark_12 : PySem.W.kitOne K (.ref C_InvalidMark) (.ref C_InvalidTexts) = some false)
    (x_me_kr_InvalidMark_13 : PySem.W.kitOne K (.ref C_InvalidMark) (.ref C_InvalidDeeds) = some false)
    (x_me_kr_InvalidMark_14 : PySem.W.kitOne K (.ref C_InvalidMark) (.ref C_NothingToUndo) = some false)
    (x_me_kr_InvalidMark_15 : PySem.W.kitOne K (.ref C_InvalidMark) (.ref C_Busy) = some false)
    (x_me_kr_InvalidMark_16 : PySem.W.kitOne K (.ref C_InvalidMark) (.ref C_UnknownName) = some false)
    (x_me_kr_InvalidMark_17 : PySem.W.kitOne K (.ref C_InvalidMark) (.ref C_TooMany) = some false)
    (x_me_kr_InvalidMark_18 : PySem.W.kitOne K (.ref C_InvalidMark) (.ref C_InputError) = some true)
    (x_me_kr_InvalidMark_19 : PySem.W.kitOne K (.ref C_InvalidMark) (.ref C_StateError) = some false)
    (x_me_kr_InvalidMark_20 : PySem.W.kitOne K (.ref C_InvalidMark) (.ref C_SizeError) = some false)
    (x_me_kr_InvalidMark_21 : PySem.W.kitOne K (.ref C_InvalidMark) (.type "ValueError") = some true)
    (x_me_kr_InvalidMark_22 : PySem.W.kitOne K (.ref C_InvalidMark) (.type "LookupError") = some false)
    (x_me_kr_InvalidMark_23 : PySem.W.kitOne K (.ref C_InvalidMark) (.type "ArithmeticError") = some false)
    (x_ga_InvalidText : PySem.W.findIn K (.ref C_InvalidText) "__getattribute__" = some (some (.builtin "BaseException.__getattribute__")))
    (x_gg_InvalidText : PySem.W.findIn K (.ref C_InvalidText) "__getattr__" = some none)
    (x_xd_InvalidText : PySem.W.hasDictIn K C_InvalidText = true)
    (x_xa_InvalidText : PySem.W.findIn K (.ref C_InvalidText) "__class__" = some (some (.builtin "object.__class__")))
    (x_xn_InvalidText : PySem.W.specialIn K (.builtin "object.__class__") "__get__" = some (some (.builtin "getset_descriptor.__get__")))
    (x_xq_InvalidText : PySem.W.takesIn K (.builtin "object.__class__") = some true)
    (x_xm_InvalidText : PySem.W.mroIn K C_InvalidText (.type "object") = some true)
    (x_me_kr_InvalidText_0 : PySem.W.kitOne K (.ref C_InvalidText) (.ref C_InvalidNumber) = some false)
    (x_me_kr_InvalidText_1 : PySem.W.kitOne K (.ref C_InvalidText) (.ref C_InvalidMark) = some false)
    (x_me_kr_InvalidText_2 : PySem.W.kitOne K (.ref C_InvalidText) (.ref C_InvalidText) = some true)
    (x_me_kr_InvalidText_3 : PySem.W.kitOne K (.ref C_InvalidText) (.ref C_InvalidLength) = some false)
    (x_me_kr_InvalidText_4 : PySem.W.kitOne K (.ref C_InvalidText) (.ref C_InvalidRule) = some false)
    (x_me_kr_InvalidText_5 : PySem.W.kitOne K (.ref C_InvalidText) (.ref C_InvalidWidth) = some false)
    (x_me_kr_InvalidText_6 : PySem.W.kitOne K (.ref C_InvalidText) (.ref C_InvalidPlace) = some false)
    (x_me_kr_InvalidText_7 : PySem.W.kitOne K (.ref C_InvalidText) (.ref C_InvalidLine) = some false)
    (x_me_kr_InvalidText_8 : PySem.W.kitOne K (.ref C_InvalidText) (.ref C_NotANamer) = some false)
    (x_me_kr_InvalidText_9 : PySem.W.kitOne K (.ref C_InvalidText) (.ref C_NotAShelf) = some false)
    (x_me_kr_InvalidText_10 : PySem.W.kitOne K (.ref C_InvalidText) (.ref C_InvalidRow) = some false)
    (x_me_kr_InvalidText_11 : PySem.W.kitOne K (.ref C_InvalidText) (.ref C_InvalidViews) = some false)
    (x_me_kr_InvalidText_12 : PySem.W.kitOne K (.ref C_InvalidText) (.ref C_InvalidTexts) = some false)
    (x_me_kr_InvalidText_13 : PySem.W.kitOne K (.ref C_InvalidText) (.ref C_InvalidDeeds) = some false)
    (x_me_kr_InvalidText_14 : PySem.W.kitOne K (.ref C_InvalidText) (.ref C_NothingToUndo) = some false)
    (x_me_kr_InvalidText_15 : PySem.W.kitOne K (.ref C_InvalidText) (.ref C_Busy) = some false)
    (x_me_kr_InvalidText_16 : PySem.W.kitOne K (.ref C_InvalidText) (.ref C_UnknownName) = some false)
    (x_me_kr_InvalidText_17 : PySem.W.kitOne K (.ref C_InvalidText) (.ref C_TooMany) = some false)
    (x_me_kr_InvalidText_18 : PySem.W.kitOne K (.ref C_InvalidText) (.ref C_InputError) = some true)
    (x_me_kr_InvalidText_19 : PySem.W.kitOne K (.ref C_InvalidText) (.ref C_StateError) = some false)
    (x_me_kr_InvalidText_20 : PySem.W.kitOne K (.ref C_InvalidText) (.ref C_SizeError) = some false)
    (x_me_kr_InvalidText_21 : PySem.W.kitOne K (.ref C_InvalidText) (.type "ValueError") = some true)
    (x_me_kr_InvalidText_22 : PySem.W.kitOne K (.ref C_InvalidText) (.type "LookupError") = some false)
    (x_me_kr_InvalidText_23 : PySem.W.kitOne K (.ref C_InvalidText) (.type "ArithmeticError") = some false)
    (x_ga_InvalidLength : PySem.W.findIn K (.ref C_InvalidLength) "__getattribute__" = some (some (.builtin "BaseException.__getattribute__")))
    (x_gg_InvalidLength : PySem.W.findIn K (.ref C_InvalidLength) "__getattr__" = some none)
    (x_xd_InvalidLength : PySem.W.hasDictIn K C_InvalidLength = true)
    (x_xa_InvalidLength : PySem.W.findIn K (.ref C_InvalidLength) "__class__" = some (some (.builtin "object.__class__")))
    (x_xn_InvalidLength : PySem.W.specialIn K (.builtin "object.__class__") "__get__" = some (some (.builtin "getset_descriptor.__get__")))
    (x_xq_InvalidLength : PySem.W.takesIn K (.builtin "object.__class__") = some true)
    (x_xm_InvalidLength : PySem.W.mroIn K C_InvalidLength (.type "object") = some true)
    (x_me_kr_InvalidLength_0 : PySem.W.kitOne K (.ref C_InvalidLength) (.ref C_InvalidNumber) = some false)
    (x_me_kr_InvalidLength_1 : PySem.W.kitOne K (.ref C_InvalidLength) (.ref C_InvalidMark) = some false)
    (x_me_kr_InvalidLength_2 : PySem.W.kitOne K (.ref C_InvalidLength) (.ref C_InvalidText) = some false)
    (x_me_kr_InvalidLength_3 : PySem.W.kitOne K (.ref C_InvalidLength) (.ref C_InvalidLength) = some true)
    (x_me_kr_InvalidLength_4 : PySem.W.kitOne K (.ref C_InvalidLength) (.ref C_InvalidRule) = some false)
    (x_me_kr_InvalidLength_5 : PySem.W.kitOne K (.ref C_InvalidLength) (.ref C_InvalidWidth) = some false)
    (x_me_kr_InvalidLength_6 : PySem.W.kitOne K (.ref C_InvalidLength) (.ref C_InvalidPlace) = some false)
    (x_me_kr_InvalidLength_7 : PySem.W.kitOne K (.ref C_InvalidLength) (.ref C_InvalidLine) = some false)
    (x_me_kr_InvalidLength_8 : PySem.W.kitOne K (.ref C_InvalidLength) (.ref C_NotANamer) = some false)
    (x_me_kr_InvalidLength_9 : PySem.W.kitOne K (.ref C_InvalidLength) (.ref C_NotAShelf) = some false)
    (x_me_kr_InvalidLength_10 : PySem.W.kitOne K (.ref C_InvalidLength) (.ref C_InvalidRow) = some false)
    (x_me_kr_InvalidLength_11 : PySem.W.kitOne K (.ref C_InvalidLength) (.ref C_InvalidViews) = some false)
    (x_me_kr_InvalidLength_12 : PySem.W.kitOne K (.ref C_InvalidLength) (.ref C_InvalidTexts) = some false)
    (x_me_kr_InvalidLength_13 : PySem.W.kitOne K (.ref C_InvalidLength) (.ref C_InvalidDeeds) = some false)
    (x_me_kr_InvalidLength_14 : PySem.W.kitOne K (.ref C_InvalidLength) (.ref C_NothingToUndo) = some false)
    (x_me_kr_InvalidLength_15 : PySem.W.kitOne K (.ref C_InvalidLength) (.ref C_Busy) = some false)
    (x_me_kr_InvalidLength_16 : PySem.W.kitOne K (.ref C_InvalidLength) (.ref C_UnknownName) = some false)
    (x_me_kr_InvalidLength_17 : PySem.W.kitOne K (.ref C_InvalidLength) (.ref C_TooMany) = some false)
    (x_me_kr_InvalidLength_18 : PySem.W.kitOne K (.ref C_InvalidLength) (.ref C_InputError) = some true)
    (x_me_kr_InvalidLength_19 : PySem.W.kitOne K (.ref C_InvalidLength) (.ref C_StateError) = some false)
    (x_me_kr_InvalidLength_20 : PySem.W.kitOne K (.ref C_InvalidLength) (.ref C_SizeError) = some false)
    (x_me_kr_InvalidLength_21 : PySem.W.kitOne K (.ref C_InvalidLength) (.type "ValueError") = some true)
    (x_me_kr_InvalidLength_22 : PySem.W.kitOne K (.ref C_InvalidLength) (.type "LookupError") = some false)
    (x_me_kr_InvalidLength_23 : PySem.W.kitOne K (.ref C_InvalidLength) (.type "ArithmeticError") = some false)
    (x_ga_InvalidRule : PySem.W.findIn K (.ref C_InvalidRule) "__getattribute__" = some (some (.builtin "BaseException.__getattribute__")))
    (x_gg_InvalidRule : PySem.W.findIn K (.ref C_InvalidRule) "__getattr__" = some none)
    (x_xd_InvalidRule : PySem.W.hasDictIn K C_InvalidRule = true)
    (x_xa_InvalidRule : PySem.W.findIn K (.ref C_InvalidRule) "__class__" = some (some (.builtin "object.__class__")))
    (x_xn_InvalidRule : PySem.W.specialIn K (.builtin "object.__class__") "__get__" = some (some (.builtin "getset_descriptor.__get__")))
    (x_xq_InvalidRule : PySem.W.takesIn K (.builtin "object.__class__") = some true)
    (x_xm_InvalidRule : PySem.W.mroIn K C_InvalidRule (.type "object") = some true)
    (x_me_kr_InvalidRule_0 : PySem.W.kitOne K (.ref C_InvalidRule) (.ref C_InvalidNumber) = some false)
    (x_me_kr_InvalidRule_1 : PySem.W.kitOne K (.ref C_InvalidRule) (.ref C_InvalidMark) = some false)
    (x_me_kr_InvalidRule_2 : PySem.W.kitOne K (.ref C_InvalidRule) (.ref C_InvalidText) = some false)
    (x_me_kr_InvalidRule_3 : PySem.W.kitOne K (.ref C_InvalidRule) (.ref C_InvalidLength) = some false)
    (x_me_kr_InvalidRule_4 : PySem.W.kitOne K (.ref C_InvalidRule) (.ref C_InvalidRule) = some true)
    (x_me_kr_InvalidRule_5 : PySem.W.kitOne K (.ref C_InvalidRule) (.ref C_InvalidWidth) = some false)
    (x_me_kr_InvalidRule_6 : PySem.W.kitOne K (.ref C_InvalidRule) (.ref C_InvalidPlace) = some false)
    (x_me_kr_InvalidRule_7 : PySem.W.kitOne K (.ref C_InvalidRule) (.ref C_InvalidLine) = some false)
    (x_me_kr_InvalidRule_8 : PySem.W.kitOne K (.ref C_InvalidRule) (.ref C_NotANamer) = some false)
    (x_me_kr_InvalidRule_9 : PySem.W.kitOne K (.ref C_InvalidRule) (.ref C_NotAShelf) = some false)
    (x_me_kr_InvalidRule_10 : PySem.W.kitOne K (.ref C_InvalidRule) (.ref C_InvalidRow) = some false)
    (x_me_kr_InvalidRule_11 : PySem.W.kitOne K (.ref C_InvalidRule) (.ref C_InvalidViews) = some false)
    (x_me_kr_InvalidRule_12 : PySem.W.kitOne K (.ref C_InvalidRule) (.ref C_InvalidTexts) = some false)
    (x_me_kr_InvalidRule_13 : PySem.W.kitOne K (.ref C_InvalidRule) (.ref C_InvalidDeeds) = some false)
    (x_me_kr_InvalidRule_14 : PySem.W.kitOne K (.ref C_InvalidRule) (.ref C_NothingToUndo) = some false)
    (x_me_kr_InvalidRule_15 : PySem.W.kitOne K (.ref C_InvalidRule) (.ref C_Busy) = some false)
    (x_me_kr_InvalidRule_16 : PySem.W.kitOne K (.ref C_InvalidRule) (.ref C_UnknownName) = some false)
    (x_me_kr_InvalidRule_17 : PySem.W.kitOne K (.ref C_InvalidRule) (.ref C_TooMany) = some false)
    (x_me_kr_InvalidRule_18 : PySem.W.kitOne K (.ref C_InvalidRule) (.ref C_InputError) = some true)
    (x_me_kr_InvalidRule_19 : PySem.W.kitOne K (.ref C_InvalidRule) (.ref C_StateError) = some false)
    (x_me_kr_InvalidRule_20 : PySem.W.kitOne K (.ref C_InvalidRule) (.ref C_SizeError) = some false)
    (x_me_kr_InvalidRule_21 : PySem.W.kitOne K (.ref C_InvalidRule) (.type "ValueError") = some true)
    (x_me_kr_InvalidRule_22 : PySem.W.kitOne K (.ref C_InvalidRule) (.type "LookupError") = some false)
    (x_me_kr_InvalidRule_23 : PySem.W.kitOne K (.ref C_InvalidRule) (.type "ArithmeticError") = some false)
    (x_ga_InvalidWidth : PySem.W.findIn K (.ref C_InvalidWidth) "__getattribute__" = some (some (.builtin "BaseException.__getattribute__")))
    (x_gg_InvalidWidth : PySem.W.findIn K (.ref C_InvalidWidth) "__getattr__" = some none)
    (x_xd_InvalidWidth : PySem.W.hasDictIn K C_InvalidWidth = true)
    (x_xa_InvalidWidth : PySem.W.findIn K (.ref C_InvalidWidth) "__class__" = some (some (.builtin "object.__class__")))
    (x_xn_InvalidWidth : PySem.W.specialIn K (.builtin "object.__class__") "__get__" = some (some (.builtin "getset_descriptor.__get__")))
    (x_xq_InvalidWidth : PySem.W.takesIn K (.builtin "object.__class__") = some true)
    (x_xm_InvalidWidth : PySem.W.mroIn K C_InvalidWidth (.type "object") = some true)
    (x_me_kr_InvalidWidth_0 : PySem.W.kitOne K (.ref C_InvalidWidth) (.ref C_InvalidNumber) = some false)
    (x_me_kr_InvalidWidth_1 : PySem.W.kitOne K (.ref C_InvalidWidth) (.ref C_InvalidMark) = some false)
    (x_me_kr_InvalidWidth_2 : PySem.W.kitOne K (.ref C_InvalidWidth) (.ref C_InvalidText) = some false)
    (x_me_kr_InvalidWidth_3 : PySem.W.kitOne K (.ref C_InvalidWidth) (.ref C_InvalidLength) = some false)
    (x_me_kr_InvalidWidth_4 : PySem.W.kitOne K (.ref C_InvalidWidth) (.ref C_InvalidRule) = some false)
    (x_me_kr_InvalidWidth_5 : PySem.W.kitOne K (.ref C_InvalidWidth) (.ref C_InvalidWidth) = some true)
    (x_me_kr_InvalidWidth_6 : PySem.W.kitOne K (.ref C_InvalidWidth) (.ref C_InvalidPlace) = some false)
    (x_me_kr_InvalidWidth_7 : PySem.W.kitOne K (.ref C_InvalidWidth) (.ref C_InvalidLine) = some false)
    (x_me_kr_InvalidWidth_8 : PySem.W.kitOne K (.ref C_InvalidWidth) (.ref C_NotANamer) = some false)
    (x_me_kr_InvalidWidth_9 : PySem.W.kitOne K (.ref C_InvalidWidth) (.ref C_NotAShelf) = some false)
    (x_me_kr_InvalidWidth_10 : PySem.W.kitOne K (.ref C_InvalidWidth) (.ref C_InvalidRow) = some false)
    (x_me_kr_InvalidWidth_11 : PySem.W.kitOne K (.ref C_InvalidWidth) (.ref C_InvalidViews) = some false)
    (x_me_kr_InvalidWidth_12 : PySem.W.kitOne K (.ref C_InvalidWidth) (.ref C_InvalidTexts) = some false)
    (x_me_kr_InvalidWidth_13 : PySem.W.kitOne K (.ref C_InvalidWidth) (.ref C_InvalidDeeds) = some false)
    (x_me_kr_InvalidWidth_14 : PySem.W.kitOne K (.ref C_InvalidWidth) (.ref C_NothingToUndo) = some false)
    (x_me_kr_InvalidWidth_15 : PySem.W.kitOne K (.ref C_InvalidWidth) (.ref C_Busy) = some false)
    (x_me_kr_InvalidWidth_16 : PySem.W.kitOne K (.ref C_InvalidWidth) (.ref C_UnknownName) = some false)
    (x_me_kr_InvalidWidth_17 : PySem.W.kitOne K (.ref C_InvalidWidth) (.ref C_TooMany) = some false)
    (x_me_kr_InvalidWidth_18 : PySem.W.kitOne K (.ref C_InvalidWidth) (.ref C_InputError) = some true)
    (x_me_kr_InvalidWidth_19 : PySem.W.kitOne K (.ref C_InvalidWidth) (.ref C_StateError) = some false)
    (x_me_kr_InvalidWidth_20 : PySem.W.kitOne K (.ref C_InvalidWidth) (.ref C_SizeError) = some false)
    (x_me_kr_InvalidWidth_21 : PySem.W.kitOne K (.ref C_InvalidWidth) (.type "ValueError") = some true)
    (x_me_kr_InvalidWidth_22 : PySem.W.kitOne K (.ref C_InvalidWidth) (.type "LookupError") = some false)
    (x_me_kr_InvalidWidth_23 : PySem.W.kitOne K (.ref C_InvalidWidth) (.type "ArithmeticError") = some false)
    (x_ga_InvalidPlace : PySem.W.findIn K (.ref C_InvalidPlace) "__getattribute__" = some (some (.builtin "BaseException.__getattribute__")))
    (x_gg_InvalidPlace : PySem.W.findIn K (.ref C_InvalidPlace) "__getattr__" = some none)
    (x_xd_InvalidPlace : PySem.W.hasDictIn K C_InvalidPlace = true)
    (x_xa_InvalidPlace : PySem.W.findIn K (.ref C_InvalidPlace) "__class__" = some (some (.builtin "object.__class__")))
    (x_xn_InvalidPlace : PySem.W.specialIn K (.builtin "object.__class__") "__get__" = some (some (.builtin "getset_descriptor.__get__")))
    (x_xq_InvalidPlace : PySem.W.takesIn K (.builtin "object.__class__") = some true)
    (x_xm_InvalidPlace : PySem.W.mroIn K C_InvalidPlace (.type "object") = some true)
    (x_me_kr_InvalidPlace_0 : PySem.W.kitOne K (.ref C_InvalidPlace) (.ref C_InvalidNumber) = some false)
    (x_me_kr_InvalidPlace_1 : PySem.W.kitOne K (.ref C_InvalidPlace) (.ref C_InvalidMark) = some false)
    (x_me_kr_InvalidPlace_2 : PySem.W.kitOne K (.ref C_InvalidPlace) (.ref C_InvalidText) = some false)
    (x_me_kr_InvalidPlace_3 : PySem.W.kitOne K (.ref C_InvalidPlace) (.ref C_InvalidLength) = some false)
    (x_me_kr_InvalidPlace_4 : PySem.W.kitOne K (.ref C_InvalidPlace) (.ref C_InvalidRule) = some false)
    (x_me_kr_InvalidPlace_5 : PySem.W.kitOne K (.ref C_InvalidPlace) (.ref C_InvalidWidth) = some false)
    (x_me_kr_InvalidPlace_6 : PySem.W.kitOne K (.ref C_InvalidPlace) (.ref C_InvalidPlace) = some true)
    (x_me_kr_InvalidPlace_7 : PySem.W.kitOne K (.ref C_InvalidPlace) (.ref C_InvalidLine) = some false)
    (x_me_kr_InvalidPlace_8 : PySem.W.kitOne K (.ref C_InvalidPlace) (.ref C_NotANamer) = some false)
    (x_me_kr_InvalidPlace_9 : PySem.W.kitOne K (.ref C_InvalidPlace) (.ref C_NotAShelf) = some false)
    (x_me_kr_InvalidPlace_10 : PySem.W.kitOne K (.ref C_InvalidPlace) (.ref C_InvalidRow) = some false)
    (x_me_kr_InvalidPlace_11 : PySem.W.kitOne K (.ref C_InvalidPlace) (.ref C_InvalidViews) = some false)
    (x_me_kr_InvalidPlace_12 : PySem.W.kitOne K (.ref C_InvalidPlace) (.ref C_InvalidTexts) = some false)
    (x_me_kr_InvalidPlace_13 : PySem.W.kitOne K (.ref C_InvalidPlace) (.ref C_InvalidDeeds) = some false)
    (x_me_kr_InvalidPlace_14 : PySem.W.kitOne K (.ref C_InvalidPlace) (.ref C_NothingToUndo) = some false)
    (x_me_kr_InvalidPlace_15 : PySem.W.kitOne K (.ref C_InvalidPlace) (.ref C_Busy) = some false)
    (x_me_kr_InvalidPlace_16 : PySem.W.kitOne K (.ref C_InvalidPlace) (.ref C_UnknownName) = some false)
    (x_me_kr_InvalidPlace_17 : PySem.W.kitOne K (.ref C_InvalidPlace) (.ref C_TooMany) = some false)
    (x_me_kr_InvalidPlace_18 : PySem.W.kitOne K (.ref C_InvalidPlace) (.ref C_InputError) = some true)
    (x_me_kr_InvalidPlace_19 : PySem.W.kitOne K (.ref C_InvalidPlace) (.ref C_StateError) = some false)
    (x_me_kr_InvalidPlace_20 : PySem.W.kitOne K (.ref C_InvalidPlace) (.ref C_SizeError) = some false)
    (x_me_kr_InvalidPlace_21 : PySem.W.kitOne K (.ref C_InvalidPlace) (.type "ValueError") = some true)
    (x_me_kr_InvalidPlace_22 : PySem.W.kitOne K (.ref C_InvalidPlace) (.type "LookupError") = some false)
    (x_me_kr_InvalidPlace_23 : PySem.W.kitOne K (.ref C_InvalidPlace) (.type "ArithmeticError") = some false)
    (x_ga_InvalidLine : PySem.W.findIn K (.ref C_InvalidLine) "__getattribute__" = some (some (.builtin "BaseException.__getattribute__")))
    (x_gg_InvalidLine : PySem.W.findIn K (.ref C_InvalidLine) "__getattr__" = some none)
    (x_xd_InvalidLine : PySem.W.hasDictIn K C_InvalidLine = true)
    (x_xa_InvalidLine : PySem.W.findIn K (.ref C_InvalidLine) "__class__" = some (some (.builtin "object.__class__")))
    (x_xn_InvalidLine : PySem.W.specialIn K (.builtin "object.__class__") "__get__" = some (some (.builtin "getset_descriptor.__get__")))
    (x_xq_InvalidLine : PySem.W.takesIn K (.builtin "object.__class__") = some true)
    (x_xm_InvalidLine : PySem.W.mroIn K C_InvalidLine (.type "object") = some true)
    (x_me_kr_InvalidLine_0 : PySem.W.kitOne K (.ref C_InvalidLine) (.ref C_InvalidNumber) = some false)
    (x_me_kr_InvalidLine_1 : PySem.W.kitOne K (.ref C_InvalidLine) (.ref C_InvalidMark) = some false)
    (x_me_kr_InvalidLine_2 : PySem.W.kitOne K (.ref C_InvalidLine) (.ref C_InvalidText) = some false)
    (x_me_kr_InvalidLine_3 : PySem.W.kitOne K (.ref C_InvalidLine) (.ref C_InvalidLength) = some false)
    (x_me_kr_InvalidLine_4 : PySem.W.kitOne K (.ref C_InvalidLine) (.ref C_InvalidRule) = some false)
    (x_me_kr_InvalidLine_5 : PySem.W.kitOne K (.ref C_InvalidLine) (.ref C_InvalidWidth) = some false)
    (x_me_kr_InvalidLine_6 : PySem.W.kitOne K (.ref C_InvalidLine) (.ref C_InvalidPlace) = some false)
    (x_me_kr_InvalidLine_7 : PySem.W.kitOne K (.ref C_InvalidLine) (.ref C_InvalidLine) = some true)
    (x_me_kr_InvalidLine_8 : PySem.W.kitOne K (.ref C_InvalidLine) (.ref C_NotANamer) = some false)
    (x_me_kr_InvalidLine_9 : PySem.W.kitOne K (.ref C_InvalidLine) (.ref C_NotAShelf) = some false)
    (x_me_kr_InvalidLine_10 : PySem.W.kitOne K (.ref C_InvalidLine) (.ref C_InvalidRow) = some false)
    (x_me_kr_InvalidLine_11 : PySem.W.kitOne K (.ref C_InvalidLine) (.ref C_InvalidViews) = some false)
    (x_me_kr_InvalidLine_12 : PySem.W.kitOne K (.ref C_InvalidLine) (.ref C_InvalidTexts) = some false)
    (x_me_kr_InvalidLine_13 : PySem.W.kitOne K (.ref C_InvalidLine) (.ref C_InvalidDeeds) = some false)
    (x_me_kr_InvalidLine_14 : PySem.W.kitOne K (.ref C_InvalidLine) (.ref C_NothingToUndo) = some false)
    (x_me_kr_InvalidLine_15 : PySem.W.kitOne K (.ref C_InvalidLine) (.ref C_Busy) = some false)
    (x_me_kr_InvalidLine_16 : PySem.W.kitOne K (.ref C_InvalidLine) (.ref C_UnknownName) = some false)
    (x_me_kr_InvalidLine_17 : PySem.W.kitOne K (.ref C_InvalidLine) (.ref C_TooMany) = some false)
    (x_me_kr_InvalidLine_18 : PySem.W.kitOne K (.ref C_InvalidLine) (.ref C_InputError) = some true)
    (x_me_kr_InvalidLine_19 : PySem.W.kitOne K (.ref C_InvalidLine) (.ref C_StateError) = some false)
    (x_me_kr_InvalidLine_20 : PySem.W.kitOne K (.ref C_InvalidLine) (.ref C_SizeError) = some false)
    (x_me_kr_InvalidLine_21 : PySem.W.kitOne K (.ref C_InvalidLine) (.type "ValueError") = some true)
    (x_me_kr_InvalidLine_22 : PySem.W.kitOne K (.ref C_InvalidLine) (.type "LookupError") = some false)
    (x_me_kr_InvalidLine_23 : PySem.W.kitOne K (.ref C_InvalidLine) (.type "ArithmeticError") = some false)
    (x_ga_NotANamer : PySem.W.findIn K (.ref C_NotANamer) "__getattribute__" = some (some (.builtin "BaseException.__getattribute__")))
    (x_gg_NotANamer : PySem.W.findIn K (.ref C_NotANamer) "__getattr__" = some none)
    (x_xd_NotANamer : PySem.W.hasDictIn K C_NotANamer = true)
    (x_xa_NotANamer : PySem.W.findIn K (.ref C_NotANamer) "__class__" = some (some (.builtin "object.__class__")))
    (x_xn_NotANamer : PySem.W.specialIn K (.builtin "object.__class__") "__get__" = some (some (.builtin "getset_descriptor.__get__")))
    (x_xq_NotANamer : PySem.W.takesIn K (.builtin "object.__class__") = some true)
    (x_xm_NotANamer : PySem.W.mroIn K C_NotANamer (.type "object") = some true)
    (x_me_kr_NotANamer_0 : PySem.W.kitOne K (.ref C_NotANamer) (.ref C_InvalidNumber) = some false)
    (x_me_kr_NotANamer_1 : PySem.W.kitOne K (.ref C_NotANamer) (.ref C_InvalidMark) = some false)
    (x_me_kr_NotANamer_2 : PySem.W.kitOne K (.ref C_NotANamer) (.ref C_InvalidText) = some false)
    (x_me_kr_NotANamer_3 : PySem.W.kitOne K (.ref C_NotANamer) (.ref C_InvalidLength) = some false)
    (x_me_kr_NotANamer_4 : PySem.W.kitOne K (.ref C_NotANamer) (.ref C_InvalidRule) = some false)
    (x_me_kr_NotANamer_5 : PySem.W.kitOne K (.ref C_NotANamer) (.ref C_InvalidWidth) = some false)
    (x_me_kr_NotANamer_6 : PySem.W.kitOne K (.ref C_NotANamer) (.ref C_InvalidPlace) = some false)
    (x_me_kr_NotANamer_7 : PySem.W.kitOne K (.ref C_NotANamer) (.ref C_InvalidLine) = some false)
    (x_me_kr_NotANamer_8 : PySem.W.kitOne K (.ref C_NotANamer) (.ref C_NotANamer) = some true)
    (x_me_kr_NotANamer_9 : PySem.W.kitOne K (.ref C_NotANamer) (.ref C_NotAShelf) = some false)
    (x_me_kr_NotANamer_10 : PySem.W.kitOne K (.ref C_NotANamer) (.ref C_InvalidRow) = some false)
    (x_me_kr_NotANamer_11 : PySem.W.kitOne K (.ref C_NotANamer) (.ref C_InvalidViews) = some false)
    (x_me_kr_NotANamer_12 : PySem.W.kitOne K (.ref C_NotANamer) (.ref C_InvalidTexts) = some false)
    (x_me_kr_NotANamer_13 : PySem.W.kitOne K (.ref C_NotANamer) (.ref C_InvalidDeeds) = some false)
    (x_me_kr_NotANamer_14 : PySem.W.kitOne K (.ref C_NotANamer) (.ref C_NothingToUndo) = some false)
    (x_me_kr_NotANamer_15 : PySem.W.kitOne K (.ref C_NotANamer) (.ref C_Busy) = some false)
    (x_me_kr_NotANamer_16 : PySem.W.kitOne K (.ref C_NotANamer) (.ref C_UnknownName) = some false)
    (x_me_kr_NotANamer_17 : PySem.W.kitOne K (.ref C_NotANamer) (.ref C_TooMany) = some false)
    (x_me_kr_NotANamer_18 : PySem.W.kitOne K (.ref C_NotANamer) (.ref C_InputError) = some true)
    (x_me_kr_NotANamer_19 : PySem.W.kitOne K (.ref C_NotANamer) (.ref C_StateError) = some false)
    (x_me_kr_NotANamer_20 : PySem.W.kitOne K (.ref C_NotANamer) (.ref C_SizeError) = some false)
    (x_me_kr_NotANamer_21 : PySem.W.kitOne K (.ref C_NotANamer) (.type "ValueError") = some true)
    (x_me_kr_NotANamer_22 : PySem.W.kitOne K (.ref C_NotANamer) (.type "LookupError") = some false)
    (x_me_kr_NotANamer_23 : PySem.W.kitOne K (.ref C_NotANamer) (.type "ArithmeticError") = some false)
    (x_ga_NotAShelf : PySem.W.findIn K (.ref C_NotAShelf) "__getattribute__" = some (some (.builtin "BaseException.__getattribute__")))
    (x_gg_NotAShelf : PySem.W.findIn K (.ref C_NotAShelf) "__getattr__" = some none)
    (x_xd_NotAShelf : PySem.W.hasDictIn K C_NotAShelf = true)
    (x_xa_NotAShelf : PySem.W.findIn K (.ref C_NotAShelf) "__class__" = some (some (.builtin "object.__class__")))
    (x_xn_NotAShelf : PySem.W.specialIn K (.builtin "object.__class__") "__get__" = some (some (.builtin "getset_descriptor.__get__")))
    (x_xq_NotAShelf : PySem.W.takesIn K (.builtin "object.__class__") = some true)
    (x_xm_NotAShelf : PySem.W.mroIn K C_NotAShelf (.type "object") = some true)
    (x_me_kr_NotAShelf_0 : PySem.W.kitOne K (.ref C_NotAShelf) (.ref C_InvalidNumber) = some false)
    (x_me_kr_NotAShelf_1 : PySem.W.kitOne K (.ref C_NotAShelf) (.ref C_InvalidMark) = some false)
    (x_me_kr_NotAShelf_2 : PySem.W.kitOne K (.ref C_NotAShelf) (.ref C_InvalidText) = some false)
    (x_me_kr_NotAShelf_3 : PySem.W.kitOne K (.ref C_NotAShelf) (.ref C_InvalidLength) = some false)
    (x_me_kr_NotAShelf_4 : PySem.W.kitOne K (.ref C_NotAShelf) (.ref C_InvalidRule) = some false)
    (x_me_kr_NotAShelf_5 : PySem.W.kitOne K (.ref C_NotAShelf) (.ref C_InvalidWidth) = some false)
    (x_me_kr_NotAShelf_6 : PySem.W.kitOne K (.ref C_NotAShelf) (.ref C_InvalidPlace) = some false)
    (x_me_kr_NotAShelf_7 : PySem.W.kitOne K (.ref C_NotAShelf) (.ref C_InvalidLine) = some false)
    (x_me_kr_NotAShelf_8 : PySem.W.kitOne K (.ref C_NotAShelf) (.ref C_NotANamer) = some false)
    (x_me_kr_NotAShelf_9 : PySem.W.kitOne K (.ref C_NotAShelf) (.ref C_NotAShelf) = some true)
    (x_me_kr_NotAShelf_10 : PySem.W.kitOne K (.ref C_NotAShelf) (.ref C_InvalidRow) = some false)
    (x_me_kr_NotAShelf_11 : PySem.W.kitOne K (.ref C_NotAShelf) (.ref C_InvalidViews) = some false)
    (x_me_kr_NotAShelf_12 : PySem.W.kitOne K (.ref C_NotAShelf) (.ref C_InvalidTexts) = some false)
    (x_me_kr_NotAShelf_13 : PySem.W.kitOne K (.ref C_NotAShelf) (.ref C_InvalidDeeds) = some false)
    (x_me_kr_NotAShelf_14 : PySem.W.kitOne K (.ref C_NotAShelf) (.ref C_NothingToUndo) = some false)
    (x_me_kr_NotAShelf_15 : PySem.W.kitOne K (.ref C_NotAShelf) (.ref C_Busy) = some false)
    (x_me_kr_NotAShelf_16 : PySem.W.kitOne K (.ref C_NotAShelf) (.ref C_UnknownName) = some false)
    (x_me_kr_NotAShelf_17 : PySem.W.kitOne K (.ref C_NotAShelf) (.ref C_TooMany) = some false)
    (x_me_kr_NotAShelf_18 : PySem.W.kitOne K (.ref C_NotAShelf) (.ref C_InputError) = some true)
    (x_me_kr_NotAShelf_19 : PySem.W.kitOne K (.ref C_NotAShelf) (.ref C_StateError) = some false)
    (x_me_kr_NotAShelf_20 : PySem.W.kitOne K (.ref C_NotAShelf) (.ref C_SizeError) = some false)
    (x_me_kr_NotAShelf_21 : PySem.W.kitOne K (.ref C_NotAShelf) (.type "ValueError") = some true)
    (x_me_kr_NotAShelf_22 : PySem.W.kitOne K (.ref C_NotAShelf) (.type "LookupError") = some false)
    (x_me_kr_NotAShelf_23 : PySem.W.kitOne K (.ref C_NotAShelf) (.type "ArithmeticError") = some false)
    (x_ga_InvalidRow : PySem.W.findIn K (.ref C_InvalidRow) "__getattribute__" = some (some (.builtin "BaseException.__getattribute__")))
    (x_gg_InvalidRow : PySem.W.findIn K (.ref C_InvalidRow) "__getattr__" = some none)
    (x_xd_InvalidRow : PySem.W.hasDictIn K C_InvalidRow = true)
    (x_xa_InvalidRow : PySem.W.findIn K (.ref C_InvalidRow) "__class__" = some (some (.builtin "object.__class__")))
    (x_xn_InvalidRow : PySem.W.specialIn K (.builtin "object.__class__") "__get__" = some (some (.builtin "getset_descriptor.__get__")))
    (x_xq_InvalidRow : PySem.W.takesIn K (.builtin "object.__class__") = some true)
    (x_xm_InvalidRow : PySem.W.mroIn K C_InvalidRow (.type "object") = some true)
    (x_me_kr_InvalidRow_0 : PySem.W.kitOne K (.ref C_InvalidRow) (.ref C_InvalidNumber) = some false)
    (x_me_kr_InvalidRow_1 : PySem.W.kitOne K (.ref C_InvalidRow) (.ref C_InvalidMark) = some false)
    (x_me_kr_InvalidRow_2 : PySem.W.kitOne K (.ref C_InvalidRow) (.ref C_InvalidText) = some false)
    (x_me_kr_InvalidRow_3 : PySem.W.kitOne K (.ref C_InvalidRow) (.ref C_InvalidLength) = some false)
    (x_me_kr_InvalidRow_4 : PySem.W.kitOne K (.ref C_InvalidRow) (.ref C_InvalidRule) = some false)
    (x_me_kr_InvalidRow_5 : PySem.W.kitOne K (.ref C_InvalidRow) (.ref C_InvalidWidth) = some false)
    (x_me_kr_InvalidRow_6 : PySem.W.kitOne K (.ref C_InvalidRow) (.ref C_InvalidPlace) = some false)
    (x_me_kr_InvalidRow_7 : PySem.W.kitOne K (.ref C_InvalidRow) (.ref C_InvalidLine) = some false)
    (x_me_kr_InvalidRow_8 : PySem.W.kitOne K (.ref C_InvalidRow) (.ref C_NotANamer) = some false)
    (x_me_kr_InvalidRow_9 : PySem.W.kitOne K (.ref C_InvalidRow) (.ref C_NotAShelf) = some false)
    (x_me_kr_InvalidRow_10 : PySem.W.kitOne K (.ref C_InvalidRow) (.ref C_InvalidRow) = some true)
    (x_me_kr_InvalidRow_11 : PySem.W.kitOne K (.ref C_InvalidRow) (.ref C_InvalidViews) = some false)
    (x_me_kr_InvalidRow_12 : PySem.W.kitOne K (.ref C_InvalidRow) (.ref C_InvalidTexts) = some false)
    (x_me_kr_InvalidRow_13 : PySem.W.kitOne K (.ref C_InvalidRow) (.ref C_InvalidDeeds) = some false)
    (x_me_kr_InvalidRow_14 : PySem.W.kitOne K (.ref C_InvalidRow) (.ref C_NothingToUndo) = some false)
    (x_me_kr_InvalidRow_15 : PySem.W.kitOne K (.ref C_InvalidRow) (.ref C_Busy) = some false)
    (x_me_kr_InvalidRow_16 : PySem.W.kitOne K (.ref C_InvalidRow) (.ref C_UnknownName) = some false)
    (x_me_kr_InvalidRow_17 : PySem.W.kitOne K (.ref C_InvalidRow) (.ref C_TooMany) = some false)
    (x_me_kr_InvalidRow_18 : PySem.W.kitOne K (.ref C_InvalidRow) (.ref C_InputError) = some true)
    (x_me_kr_InvalidRow_19 : PySem.W.kitOne K (.ref C_InvalidRow) (.ref C_StateError) = some false)
    (x_me_kr_InvalidRow_20 : PySem.W.kitOne K (.ref C_InvalidRow) (.ref C_SizeError) = some false)
    (x_me_kr_InvalidRow_21 : PySem.W.kitOne K (.ref C_InvalidRow) (.type "ValueError") = some true)
    (x_me_kr_InvalidRow_22 : PySem.W.kitOne K (.ref C_InvalidRow) (.type "LookupError") = some false)
    (x_me_kr_InvalidRow_23 : PySem.W.kitOne K (.ref C_InvalidRow) (.type "ArithmeticError") = some false)
    (x_ga_InvalidViews : PySem.W.findIn K (.ref C_InvalidViews) "__getattribute__" = some (some (.builtin "BaseException.__getattribute__")))
    (x_gg_InvalidViews : PySem.W.findIn K (.ref C_InvalidViews) "__getattr__" = some none)
    (x_xd_InvalidViews : PySem.W.hasDictIn K C_InvalidViews = true)
    (x_xa_InvalidViews : PySem.W.findIn K (.ref C_InvalidViews) "__class__" = some (some (.builtin "object.__class__")))
    (x_xn_InvalidViews : PySem.W.specialIn K (.builtin "object.__class__") "__get__" = some (some (.builtin "getset_descriptor.__get__")))
    (x_xq_InvalidViews : PySem.W.takesIn K (.builtin "object.__class__") = some true)
    (x_xm_InvalidViews : PySem.W.mroIn K C_InvalidViews (.type "object") = some true)
    (x_me_kr_InvalidViews_0 : PySem.W.kitOne K (.ref C_InvalidViews) (.ref C_InvalidNumber) = some false)
    (x_me_kr_InvalidViews_1 : PySem.W.kitOne K (.ref C_InvalidViews) (.ref C_InvalidMark) = some false)
    (x_me_kr_InvalidViews_2 : PySem.W.kitOne K (.ref C_InvalidViews) (.ref C_InvalidText) = some false)
    (x_me_kr_InvalidViews_3 : PySem.W.kitOne K (.ref C_InvalidViews) (.ref C_InvalidLength) = some false)
    (x_me_kr_InvalidViews_4 : PySem.W.kitOne K (.ref C_InvalidViews) (.ref C_InvalidRule) = some false)
    (x_me_kr_InvalidViews_5 : PySem.W.kitOne K (.ref C_InvalidViews) (.ref C_InvalidWidth) = some false)
    (x_me_kr_InvalidViews_6 : PySem.W.kitOne K (.ref C_InvalidViews) (.ref C_InvalidPlace) = some false)
    (x_me_kr_InvalidViews_7 : PySem.W.kitOne K (.ref C_InvalidViews) (.ref C_InvalidLine) = some false)
    (x_me_kr_InvalidViews_8 : PySem.W.kitOne K (.ref C_InvalidViews) (.ref C_NotANamer) = some false)
    (x_me_kr_InvalidViews_9 : PySem.W.kitOne K (.ref C_InvalidViews) (.ref C_NotAShelf) = some false)
    (x_me_kr_InvalidViews_10 : PySem.W.kitOne K (.ref C_InvalidViews) (.ref C_InvalidRow) = some false)
    (x_me_kr_InvalidViews_11 : PySem.W.kitOne K (.ref C_InvalidViews) (.ref C_InvalidViews) = some true)
    (x_me_kr_InvalidViews_12 : PySem.W.kitOne K (.ref C_InvalidViews) (.ref C_InvalidTexts) = some false)
    (x_me_kr_InvalidViews_13 : PySem.W.kitOne K (.ref C_InvalidViews) (.ref C_InvalidDeeds) = some false)
    (x_me_kr_InvalidViews_14 : PySem.W.kitOne K (.ref C_InvalidViews) (.ref C_NothingToUndo) = some false)
    (x_me_kr_InvalidViews_15 : PySem.W.kitOne K (.ref C_InvalidViews) (.ref C_Busy) = some false)
    (x_me_kr_InvalidViews_16 : PySem.W.kitOne K (.ref C_InvalidViews) (.ref C_UnknownName) = some false)
    (x_me_kr_InvalidViews_17 : PySem.W.kitOne K (.ref C_InvalidViews) (.ref C_TooMany) = some false)
    (x_me_kr_InvalidViews_18 : PySem.W.kitOne K (.ref C_InvalidViews) (.ref C_InputError) = some true)
    (x_me_kr_InvalidViews_19 : PySem.W.kitOne K (.ref C_InvalidViews) (.ref C_StateError) = some false)
    (x_me_kr_InvalidViews_20 : PySem.W.kitOne K (.ref C_InvalidViews) (.ref C_SizeError) = some false)
    (x_me_kr_InvalidViews_21 : PySem.W.kitOne K (.ref C_InvalidViews) (.type "ValueError") = some true)
    (x_me_kr_InvalidViews_22 : PySem.W.kitOne K (.ref C_InvalidViews) (.type "LookupError") = some false)
    (x_me_kr_InvalidViews_23 : PySem.W.kitOne K (.ref C_InvalidViews) (.type "ArithmeticError") = some false)
    (x_ga_InvalidTexts : PySem.W.findIn K (.ref C_InvalidTexts) "__getattribute__" = some (some (.builtin "BaseException.__getattribute__")))
    (x_gg_InvalidTexts : PySem.W.findIn K (.ref C_InvalidTexts) "__getattr__" = some none)
    (x_xd_InvalidTexts : PySem.W.hasDictIn K C_InvalidTexts = true)
    (x_xa_InvalidTexts : PySem.W.findIn K (.ref C_InvalidTexts) "__class__" = some (some (.builtin "object.__class__")))
    (x_xn_InvalidTexts : PySem.W.specialIn K (.builtin "object.__class__") "__get__" = some (some (.builtin "getset_descriptor.__get__")))
    (x_xq_InvalidTexts : PySem.W.takesIn K (.builtin "object.__class__") = some true)
    (x_xm_InvalidTexts : PySem.W.mroIn K C_InvalidTexts (.type "object") = some true)
    (x_me_kr_InvalidTexts_0 : PySem.W.kitOne K (.ref C_InvalidTexts) (.ref C_InvalidNumber) = some false)
    (x_me_kr_InvalidTexts_1 : PySem.W.kitOne K (.ref C_InvalidTexts) (.ref C_InvalidMark) = some false)
    (x_me_kr_InvalidTexts_2 : PySem.W.kitOne K (.ref C_InvalidTexts) (.ref C_InvalidText) = some false)
    (x_me_kr_InvalidTexts_3 : PySem.W.kitOne K (.ref C_InvalidTexts) (.ref C_InvalidLength) = some false)
    (x_me_kr_InvalidTexts_4 : PySem.W.kitOne K (.ref C_InvalidTexts) (.ref C_InvalidRule) = some false)
    (x_me_kr_InvalidTexts_5 : PySem.W.kitOne K (.ref C_InvalidTexts) (.ref C_InvalidWidth) = some false)
    (x_me_kr_InvalidTexts_6 : PySem.W.kitOne K (.ref C_InvalidTexts) (.ref C_InvalidPlace) = some false)
    (x_me_kr_InvalidTexts_7 : PySem.W.kitOne K (.ref C_InvalidTexts) (.ref C_InvalidLine) = some false)
    (x_me_kr_InvalidTexts_8 : PySem.W.kitOne K (.ref C_InvalidTexts) (.ref C_NotANamer) = some false)
    (x_me_kr_InvalidTexts_9 : PySem.W.kitOne K (.ref C_InvalidTexts) (.ref C_NotAShelf) = some false)
    (x_me_kr_InvalidTexts_10 : PySem.W.kitOne K (.ref C_InvalidTexts) (.ref C_InvalidRow) = some false)
    (x_me_kr_InvalidTexts_11 : PySem.W.kitOne K (.ref C_InvalidTexts) (.ref C_InvalidViews) = some false)
    (x_me_kr_InvalidTexts_12 : PySem.W.kitOne K (.ref C_InvalidTexts) (.ref C_InvalidTexts) = some true)
    (x_me_kr_InvalidTexts_13 : PySem.W.kitOne K (.ref C_InvalidTexts) (.ref C_InvalidDeeds) = some false)
    (x_me_kr_InvalidTexts_14 : PySem.W.kitOne K (.ref C_InvalidTexts) (.ref C_NothingToUndo) = some false)
    (x_me_kr_InvalidTexts_15 : PySem.W.kitOne K (.ref C_InvalidTexts) (.ref C_Busy) = some false)
    (x_me_kr_InvalidTexts_16 : PySem.W.kitOne K (.ref C_InvalidTexts) (.ref C_UnknownName) = some false)
    (x_me_kr_InvalidTexts_17 : PySem.W.kitOne K (.ref C_InvalidTexts) (.ref C_TooMany) = some false)
    (x_me_kr_InvalidTexts_18 : PySem.W.kitOne K (.ref C_InvalidTexts) (.ref C_InputError) = some true)
    (x_me_kr_InvalidTexts_19 : PySem.W.kitOne K (.ref C_InvalidTexts) (.ref C_StateError) = some false)
    (x_me_kr_InvalidTexts_20 : PySem.W.kitOne K (.ref C_InvalidTexts) (.ref C_SizeError) = some false)
    (x_me_kr_InvalidTexts_21 : PySem.W.kitOne K (.ref C_InvalidTexts) (.type "ValueError") = some true)
    (x_me_kr_InvalidTexts_22 : PySem.W.kitOne K (.ref C_InvalidTexts) (.type "LookupError") = some false)
    (x_me_kr_InvalidTexts_23 : PySem.W.kitOne K (.ref C_InvalidTexts) (.type "ArithmeticError") = some false)
    (x_ga_InvalidDeeds : PySem.W.findIn K (.ref C_InvalidDeeds) "__getattribute__" = some (some (.builtin "BaseException.__getattribute__")))
    (x_gg_InvalidDeeds : PySem.W.findIn K (.ref C_InvalidDeeds) "__getattr__" = some none)
    (x_xd_InvalidDeeds : PySem.W.hasDictIn K C_InvalidDeeds = true)
    (x_xa_InvalidDeeds : PySem.W.findIn K (.ref C_InvalidDeeds) "__class__" = some (some (.builtin "object.__class__")))
    (x_xn_InvalidDeeds : PySem.W.specialIn K (.builtin "object.__class__") "__get__" = some (some (.builtin "getset_descriptor.__get__")))
    (x_xq_InvalidDeeds : PySem.W.takesIn K (.builtin "object.__class__") = some true)
    (x_xm_InvalidDeeds : PySem.W.mroIn K C_InvalidDeeds (.type "object") = some true)
    (x_me_kr_InvalidDeeds_0 : PySem.W.kitOne K (.ref C_InvalidDeeds) (.ref C_InvalidNumber) = some false)
    (x_me_kr_InvalidDeeds_1 : PySem.W.kitOne K (.ref C_InvalidDeeds) (.ref C_InvalidMark) = some false)
    (x_me_kr_InvalidDeeds_2 : PySem.W.kitOne K (.ref C_InvalidDeeds) (.ref C_InvalidText) = some false)
    (x_me_kr_InvalidDeeds_3 : PySem.W.kitOne K (.ref C_InvalidDeeds) (.ref C_InvalidLength) = some false)
    (x_me_kr_InvalidDeeds_4 : PySem.W.kitOne K (.ref C_InvalidDeeds) (.ref C_InvalidRule) = some false)
    (x_me_kr_InvalidDeeds_5 : PySem.W.kitOne K (.ref C_InvalidDeeds) (.ref C_InvalidWidth) = some false)
    (x_me_kr_InvalidDeeds_6 : PySem.W.kitOne K (.ref C_InvalidDeeds) (.ref C_InvalidPlace) = some false)
    (x_me_kr_InvalidDeeds_7 : PySem.W.kitOne K (.ref C_InvalidDeeds) (.ref C_InvalidLine) = some false)
    (x_me_kr_InvalidDeeds_8 : PySem.W.kitOne K (.ref C_InvalidDeeds) (.ref C_NotANamer) = some false)
    (x_me_kr_InvalidDeeds_9 : PySem.W.kitOne K (.ref C_InvalidDeeds) (.ref C_NotAShelf) = some false)
    (x_me_kr_InvalidDeeds_10 : PySem.W.kitOne K (.ref C_InvalidDeeds) (.ref C_InvalidRow) = some false)
    (x_me_kr_InvalidDeeds_11 : PySem.W.kitOne K (.ref C_InvalidDeeds) (.ref C_InvalidViews) = some false)
    (x_me_kr_InvalidDeeds_12 : PySem.W.kitOne K (.ref C_InvalidDeeds) (.ref C_InvalidTexts) = some false)
    (x_me_kr_InvalidDeeds_13 : PySem.W.kitOne K (.ref C_InvalidDeeds) (.ref C_InvalidDeeds) = some true)
    (x_me_kr_InvalidDeeds_14 : PySem.W.kitOne K (.ref C_InvalidDeeds) (.ref C_NothingToUndo) = some false)
    (x_me_kr_InvalidDeeds_15 : PySem.W.kitOne K (.ref C_InvalidDeeds) (.ref C_Busy) = some false)
    (x_me_kr_InvalidDeeds_16 : PySem.W.kitOne K (.ref C_InvalidDeeds) (.ref C_UnknownName) = some false)
    (x_me_kr_InvalidDeeds_17 : PySem.W.kitOne K (.ref C_InvalidDeeds) (.ref C_TooMany) = some false)
    (x_me_kr_InvalidDeeds_18 : PySem.W.kitOne K (.ref C_InvalidDeeds) (.ref C_InputError) = some true)
    (x_me_kr_InvalidDeeds_19 : PySem.W.kitOne K (.ref C_InvalidDeeds) (.ref C_StateError) = some false)
    (x_me_kr_InvalidDeeds_20 : PySem.W.kitOne K (.ref C_InvalidDeeds) (.ref C_SizeError) = some false)
    (x_me_kr_InvalidDeeds_21 : PySem.W.kitOne K (.ref C_InvalidDeeds) (.type "ValueError") = some true)
    (x_me_kr_InvalidDeeds_22 : PySem.W.kitOne K (.ref C_InvalidDeeds) (.type "LookupError") = some false)
    (x_me_kr_InvalidDeeds_23 : PySem.W.kitOne K (.ref C_InvalidDeeds) (.type "ArithmeticError") = some false)
    (x_ga_NothingToUndo : PySem.W.findIn K (.ref C_NothingToUndo) "__getattribute__" = some (some (.builtin "BaseException.__getattribute__")))
    (x_gg_NothingToUndo : PySem.W.findIn K (.ref C_NothingToUndo) "__getattr__" = some none)
    (x_xd_NothingToUndo : PySem.W.hasDictIn K C_NothingToUndo = true)
    (x_xa_NothingToUndo : PySem.W.findIn K (.ref C_NothingToUndo) "__class__" = some (some (.builtin "object.__class__")))
    (x_xn_NothingToUndo : PySem.W.specialIn K (.builtin "object.__class__") "__get__" = some (some (.builtin "getset_descriptor.__get__")))
    (x_xq_NothingToUndo : PySem.W.takesIn K (.builtin "object.__class__") = some true)
    (x_xm_NothingToUndo : PySem.W.mroIn K C_NothingToUndo (.type "object") = some true)
    (x_xe_NothingToUndo : PySem.W.subIn K (.ref C_NothingToUndo) (.type "BaseException") = some true)
    (x_me_kr_NothingToUndo_0 : PySem.W.kitOne K (.ref C_NothingToUndo) (.ref C_InvalidNumber) = some false)
    (x_me_kr_NothingToUndo_1 : PySem.W.kitOne K (.ref C_NothingToUndo) (.ref C_InvalidMark) = some false)
    (x_me_kr_NothingToUndo_2 : PySem.W.kitOne K (.ref C_NothingToUndo) (.ref C_InvalidText) = some false)
    (x_me_kr_NothingToUndo_3 : PySem.W.kitOne K (.ref C_NothingToUndo) (.ref C_InvalidLength) = some false)
    (x_me_kr_NothingToUndo_4 : PySem.W.kitOne K (.ref C_NothingToUndo) (.ref C_InvalidRule) = some false)
    (x_me_kr_NothingToUndo_5 : PySem.W.kitOne K (.ref C_NothingToUndo) (.ref C_InvalidWidth) = some false)
    (x_me_kr_NothingToUndo_6 : PySem.W.kitOne K (.ref C_NothingToUndo) (.ref C_InvalidPlace) = some false)
    (x_me_kr_NothingToUndo_7 : PySem.W.kitOne K (.ref C_NothingToUndo) (.ref C_InvalidLine) = some false)
    (x_me_kr_NothingToUndo_8 : PySem.W.kitOne K (.ref C_NothingToUndo) (.ref C_NotANamer) = some false)
    (x_me_kr_NothingToUndo_9 : PySem.W.kitOne K (.ref C_NothingToUndo) (.ref C_NotAShelf) = some false)
    (x_me_kr_NothingToUndo_10 : PySem.W.kitOne K (.ref C_NothingToUndo) (.ref C_InvalidRow) = some false)
    (x_me_kr_NothingToUndo_11 : PySem.W.kitOne K (.ref C_NothingToUndo) (.ref C_InvalidViews) = some false)
    (x_me_kr_NothingToUndo_12 : PySem.W.kitOne K (.ref C_NothingToUndo) (.ref C_InvalidTexts) = some false)
    (x_me_kr_NothingToUndo_13 : PySem.W.kitOne K (.ref C_NothingToUndo) (.ref C_InvalidDeeds) = some false)
    (x_me_kr_NothingToUndo_14 : PySem.W.kitOne K (.ref C_NothingToUndo) (.ref C_NothingToUndo) = some true)
    (x_me_kr_NothingToUndo_15 : PySem.W.kitOne K (.ref C_NothingToUndo) (.ref C_Busy) = some false)
    (x_me_kr_NothingToUndo_16 : PySem.W.kitOne K (.ref C_NothingToUndo) (.ref C_UnknownName) = some false)
    (x_me_kr_NothingToUndo_17 : PySem.W.kitOne K (.ref C_NothingToUndo) (.ref C_TooMany) = some false)
    (x_me_kr_NothingToUndo_18 : PySem.W.kitOne K (.ref C_NothingToUndo) (.ref C_InputError) = some false)
    (x_me_kr_NothingToUndo_19 : PySem.W.kitOne K (.ref C_NothingToUndo) (.ref C_StateError) = some true)
    (x_me_kr_NothingToUndo_20 : PySem.W.kitOne K (.ref C_NothingToUndo) (.ref C_SizeError) = some false)
    (x_me_kr_NothingToUndo_21 : PySem.W.kitOne K (.ref C_NothingToUndo) (.type "ValueError") = some false)
    (x_me_kr_NothingToUndo_22 : PySem.W.kitOne K (.ref C_NothingToUndo) (.type "LookupError") = some true)
    (x_me_kr_NothingToUndo_23 : PySem.W.kitOne K (.ref C_NothingToUndo) (.type "ArithmeticError") = some false)
    (x_ga_Busy : PySem.W.findIn K (.ref C_Busy) "__getattribute__" = some (some (.builtin "BaseException.__getattribute__")))
    (x_gg_Busy : PySem.W.findIn K (.ref C_Busy) "__getattr__" = some none)
    (x_xd_Busy : PySem.W.hasDictIn K C_Busy = true)
    (x_xa_Busy : PySem.W.findIn K (.ref C_Busy) "__class__" = some (some (.builtin "object.__class__")))
    (x_xn_Busy : PySem.W.specialIn K (.builtin "object.__class__") "__get__" = some (some (.builtin "getset_descriptor.__get__")))
    (x_xq_Busy : PySem.W.takesIn K (.builtin "object.__class__") = some true)
    (x_xm_Busy : PySem.W.mroIn K C_Busy (.type "object") = some true)
    (x_xe_Busy : PySem.W.subIn K (.ref C_Busy) (.type "BaseException") = some true)
    (x_me_kr_Busy_0 : PySem.W.kitOne K (.ref C_Busy) (.ref C_InvalidNumber) = some false)
    (x_me_kr_Busy_1 : PySem.W.kitOne K (.ref C_Busy) (.ref C_InvalidMark) = some false)
    (x_me_kr_Busy_2 : PySem.W.kitOne K (.ref C_Busy) (.ref C_InvalidText) = some false)
    (x_me_kr_Busy_3 : PySem.W.kitOne K (.ref C_Busy) (.ref C_InvalidLength) = some false)
    (x_me_kr_Busy_4 : PySem.W.kitOne K (.ref C_Busy) (.ref C_InvalidRule) = some false)
    (x_me_kr_Busy_5 : PySem.W.kitOne K (.ref C_Busy) (.ref C_InvalidWidth) = some false)
    (x_me_kr_Busy_6 : PySem.W.kitOne K (.ref C_Busy) (.ref C_InvalidPlace) = some false)
    (x_me_kr_Busy_7 : PySem.W.kitOne K (.ref C_Busy) (.ref C_InvalidLine) = some false)
    (x_me_kr_Busy_8 : PySem.W.kitOne K (.ref C_Busy) (.ref C_NotANamer) = some false)
    (x_me_kr_Busy_9 : PySem.W.kitOne K (.ref C_Busy) (.ref C_NotAShelf) = some false)
    (x_me_kr_Busy_10 : PySem.W.kitOne K (.ref C_Busy) (.ref C_InvalidRow) = some false)
    (x_me_kr_Busy_11 : PySem.W.kitOne K (.ref C_Busy) (.ref C_InvalidViews) = some false)
    (x_me_kr_Busy_12 : PySem.W.kitOne K (.ref C_Busy) (.ref C_InvalidTexts) = some false)
    (x_me_kr_Busy_13 : PySem.W.kitOne K (.ref C_Busy) (.ref C_InvalidDeeds) = some false)
    (x_me_kr_Busy_14 : PySem.W.kitOne K (.ref C_Busy) (.ref C_NothingToUndo) = some false)
    (x_me_kr_Busy_15 : PySem.W.kitOne K (.ref C_Busy) (.ref C_Busy) = some true)
    (x_me_kr_Busy_16 : PySem.W.kitOne K (.ref C_Busy) (.ref C_UnknownName) = some false)
    (x_me_kr_Busy_17 : PySem.W.kitOne K (.ref C_Busy) (.ref C_TooMany) = some false)
    (x_me_kr_Busy_18 : PySem.W.kitOne K (.ref C_Busy) (.ref C_InputError) = some false)
    (x_me_kr_Busy_19 : PySem.W.kitOne K (.ref C_Busy) (.ref C_StateError) = some true)
    (x_me_kr_Busy_20 : PySem.W.kitOne K (.ref C_Busy) (.ref C_SizeError) = some false)
    (x_me_kr_Busy_21 : PySem.W.kitOne K (.ref C_Busy) (.type "ValueError") = some false)
    (x_me_kr_Busy_22 : PySem.W.kitOne K (.ref C_Busy) (.type "LookupError") = some true)
    (x_me_kr_Busy_23 : PySem.W.kitOne K (.ref C_Busy) (.type "ArithmeticError") = some false)
    (x_ga_UnknownName : PySem.W.findIn K (.ref C_UnknownName) "__getattribute__" = some (some (.builtin "BaseException.__getattribute__")))
    (x_gg_UnknownName : PySem.W.findIn K (.ref C_UnknownName) "__getattr__" = some none)
    (x_xd_UnknownName : PySem.W.hasDictIn K C_UnknownName = true)
    (x_xa_UnknownName : PySem.W.findIn K (.ref C_UnknownName) "__class__" = some (some (.builtin "object.__class__")))
    (x_xn_UnknownName : PySem.W.specialIn K (.builtin "object.__class__") "__get__" = some (some (.builtin "getset_descriptor.__get__")))
    (x_xq_UnknownName : PySem.W.takesIn K (.builtin "object.__class__") = some true)
    (x_xm_UnknownName : PySem.W.mroIn K C_UnknownName (.type "object") = some true)
    (x_me_kr_UnknownName_0 : PySem.W.kitOne K (.ref C_UnknownName) (.ref C_InvalidNumber) = some false)
    (x_me_kr_UnknownName_1 : PySem.W.kitOne K (.ref C_UnknownName) (.ref C_InvalidMark) = some false)
    (x_me_kr_UnknownName_2 : PySem.W.kitOne K (.ref C_UnknownName) (.ref C_InvalidText) = some false)
    (x_me_kr_UnknownName_3 : PySem.W.kitOne K (.ref C_UnknownName) (.ref C_InvalidLength) = some false)
    (x_me_kr_UnknownName_4 : PySem.W.kitOne K (.ref C_UnknownName) (.ref C_InvalidRule) = some false)
    (x_me_kr_UnknownName_5 : PySem.W.kitOne K (.ref C_UnknownName) (.ref C_InvalidWidth) = some false)
    (x_me_kr_UnknownName_6 : PySem.W.kitOne K (.ref C_UnknownName) (.ref C_InvalidPlace) = some false)
    (x_me_kr_UnknownName_7 : PySem.W.kitOne K (.ref C_UnknownName) (.ref C_InvalidLine) = some false)
    (x_me_kr_UnknownName_8 : PySem.W.kitOne K (.ref C_UnknownName) (.ref C_NotANamer) = some false)
    (x_me_kr_UnknownName_9 : PySem.W.kitOne K (.ref C_UnknownName) (.ref C_NotAShelf) = some false)
    (x_me_kr_UnknownName_10 : PySem.W.kitOne K (.ref C_UnknownName) (.ref C_InvalidRow) = some false)
    (x_me_kr_UnknownName_11 : PySem.W.kitOne K (.ref C_UnknownName) (.ref C_InvalidViews) = some false)
    (x_me_kr_UnknownName_12 : PySem.W.kitOne K (.ref C_UnknownName) (.ref C_InvalidTexts) = some false)
    (x_me_kr_UnknownName_13 : PySem.W.kitOne K (.ref C_UnknownName) (.ref C_InvalidDeeds) = some false)
    (x_me_kr_UnknownName_14 : PySem.W.kitOne K (.ref C_UnknownName) (.ref C_NothingToUndo) = some false)
    (x_me_kr_UnknownName_15 : PySem.W.kitOne K (.ref C_UnknownName) (.ref C_Busy) = some false)
    (x_me_kr_UnknownName_16 : PySem.W.kitOne K (.ref C_UnknownName) (.ref C_UnknownName) = some true)
    (x_me_kr_UnknownName_17 : PySem.W.kitOne K (.ref C_UnknownName) (.ref C_TooMany) = some false)
    (x_me_kr_UnknownName_18 : PySem.W.kitOne K (.ref C_UnknownName) (.ref C_InputError) = some false)
    (x_me_kr_UnknownName_19 : PySem.W.kitOne K (.ref C_UnknownName) (.ref C_StateError) = some true)
    (x_me_kr_UnknownName_20 : PySem.W.kitOne K (.ref C_UnknownName) (.ref C_SizeError) = some false)
    (x_me_kr_UnknownName_21 : PySem.W.kitOne K (.ref C_UnknownName) (.type "ValueError") = some false)
    (x_me_kr_UnknownName_22 : PySem.W.kitOne K (.ref C_UnknownName) (.type "LookupError") = some true)
    (x_me_kr_UnknownName_23 : PySem.W.kitOne K (.ref C_UnknownName) (.type "ArithmeticError") = some false)
    (x_ga_TooMany : PySem.W.findIn K (.ref C_TooMany) "__getattribute__" = some (some (.builtin "BaseException.__getattribute__")))
    (x_gg_TooMany : PySem.W.findIn K (.ref C_TooMany) "__getattr__" = some none)
    (x_xd_TooMany : PySem.W.hasDictIn K C_TooMany = true)
    (x_xa_TooMany : PySem.W.findIn K (.ref C_TooMany) "__class__" = some (some (.builtin "object.__class__")))
    (x_xn_TooMany : PySem.W.specialIn K (.builtin "object.__class__") "__get__" = some (some (.builtin "getset_descriptor.__get__")))
    (x_xq_TooMany : PySem.W.takesIn K (.builtin "object.__class__") = some true)
    (x_xm_TooMany : PySem.W.mroIn K C_TooMany (.type "object") = some true)
    (x_me_kr_TooMany_0 : PySem.W.kitOne K (.ref C_TooMany) (.ref C_InvalidNumber) = some false)
    (x_me_kr_TooMany_1 : PySem.W.kitOne K (.ref C_TooMany) (.ref C_InvalidMark) = some false)
    (x_me_kr_TooMany_2 : PySem.W.kitOne K (.ref C_TooMany) (.ref C_InvalidText) = some false)
    (x_me_kr_TooMany_3 : PySem.W.kitOne K (.ref C_TooMany) (.ref C_InvalidLength) = some false)
    (x_me_kr_TooMany_4 : PySem.W.kitOne K (.ref C_TooMany) (.ref C_InvalidRule) = some false)
    (x_me_kr_TooMany_5 : PySem.W.kitOne K (.ref C_TooMany) (.ref C_InvalidWidth) = some false)
    (x_me_kr_TooMany_6 : PySem.W.kitOne K (.ref C_TooMany) (.ref C_InvalidPlace) = some false)
    (x_me_kr_TooMany_7 : PySem.W.kitOne K (.ref C_TooMany) (.ref C_InvalidLine) = some false)
    (x_me_kr_TooMany_8 : PySem.W.kitOne K (.ref C_TooMany) (.ref C_NotANamer) = some false)
    (x_me_kr_TooMany_9 : PySem.W.kitOne K (.ref C_TooMany) (.ref C_NotAShelf) = some false)
    (x_me_kr_TooMany_10 : PySem.W.kitOne K (.ref C_TooMany) (.ref C_InvalidRow) = some false)
    (x_me_kr_TooMany_11 : PySem.W.kitOne K (.ref C_TooMany) (.ref C_InvalidViews) = some false)
    (x_me_kr_TooMany_12 : PySem.W.kitOne K (.ref C_TooMany) (.ref C_InvalidTexts) = some false)
    (x_me_kr_TooMany_13 : PySem.W.kitOne K (.ref C_TooMany) (.ref C_InvalidDeeds) = some false)
    (x_me_kr_TooMany_14 : PySem.W.kitOne K (.ref C_TooMany) (.ref C_NothingToUndo) = some false)
    (x_me_kr_TooMany_15 : PySem.W.kitOne K (.ref C_TooMany) (.ref C_Busy) = some false)
    (x_me_kr_TooMany_16 : PySem.W.kitOne K (.ref C_TooMany) (.ref C_UnknownName) = some false)
    (x_me_kr_TooMany_17 : PySem.W.kitOne K (.ref C_TooMany) (.ref C_TooMany) = some true)
    (x_me_kr_TooMany_18 : PySem.W.kitOne K (.ref C_TooMany) (.ref C_InputError) = some false)
    (x_me_kr_TooMany_19 : PySem.W.kitOne K (.ref C_TooMany) (.ref C_StateError) = some false)
    (x_me_kr_TooMany_20 : PySem.W.kitOne K (.ref C_TooMany) (.ref C_SizeError) = some true)
    (x_me_kr_TooMany_21 : PySem.W.kitOne K (.ref C_TooMany) (.type "ValueError") = some false)
    (x_me_kr_TooMany_22 : PySem.W.kitOne K (.ref C_TooMany) (.type "LookupError") = some false)
    (x_me_kr_TooMany_23 : PySem.W.kitOne K (.ref C_TooMany) (.type "ArithmeticError") = some true)
    (x_a__law_pot : PySem.W.nsIn K mainGlobals "_law_pot" = some (some (.ref f__law_pot)))
    (x_i__law_pot : PySem.W.isFn K (.ref f__law_pot) = true)
    (x_l__law_pot : K.lookup f__law_pot = some ⟨oc__law_pot, od__law_pot, .func (PySem.W.fnOf "_law_pot" "_law_pot" (L2.defArgs s__law_pot) (L2.defBody s__law_pot) (L2.defScope s__law_pot) .none kV__law_pot dc__law_pot pm__law_pot an__law_pot cd__law_pot ct__law_pot), sl__law_pot⟩)
    (x_c__law_pot : PySem.W.codeIn K cd__law_pot "_law_pot" = true)
    (x_k__law_pot : PySem.W.keepIn K (.ref f__law_pot) = true)
    (x_a__law_ladle : PySem.W.nsIn K mainGlobals "_law_ladle" = some (some (.ref f__law_ladle)))
    (x_i__law_ladle : PySem.W.isFn K (.ref f__law_ladle) = true)
    (x_l__law_ladle : K.lookup f__law_ladle = some ⟨oc__law_ladle, od__law_ladle, .func (PySem.W.fnOf "_law_ladle" "_law_ladle" (L2.defArgs s__law_ladle) (L2.defBody s__law_ladle) (L2.defScope s__law_ladle) .none kV__law_ladle dc__law_ladle pm__law_ladle an__law_ladle cd__law_ladle ct__law_ladle), sl__law_ladle⟩)
    (x_c__law_ladle : PySem.W.codeIn K cd__law_ladle "_law_ladle" = true)
    (x_k__law_ladle : PySem.W.keepIn K (.ref f__law_ladle) = true)
    (x_a__law_one_of : PySem.W.nsIn K mainGlobals "_law_one_of" = some (some (.ref f__law_one_of)))
    (x_i__law_one_of : PySem.W.isFn K (.ref f__law_one_of) = true)
    (x_l__law_one_of : K.lookup f__law_one_of = some ⟨oc__law_one_of, od__law_one_of, .func (PySem.W.fnOf "_law_one_of" "_law_one_of" (L2.defArgs s__law_one_of) (L2.defBody s__law_one_of) (L2.defScope s__law_one_of) .none kV__law_one_of dc__law_one_of pm__law_one_of an__law_one_of cd__law_one_of ct__law_one_of), sl__law_one_of⟩)
    (x_c__law_one_of : PySem.W.codeIn K cd__law_one_of "_law_one_of" = true)
    (x_k__law_one_of : PySem.W.keepIn K (.ref f__law_one_of) = true)
    (x_a__law_value_errors : PySem.W.nsIn K mainGlobals "_law_value_errors" = some (some (.ref f__law_value_errors)))
    (x_i__law_value_errors : PySem.W.isFn K (.ref f__law_value_errors) = true)
    (x_l__law_value_errors : K.lookup f__law_value_errors = some ⟨oc__law_value_errors, od__law_value_errors, .func (PySem.W.fnOf "_law_value_errors" "_law_value_errors" (L2.defArgs s__law_value_errors) (L2.defBody s__law_value_errors) (L2.defScope s__law_value_errors) .none kV__law_value_errors dc__law_value_errors pm__law_value_errors an__law_value_errors cd__law_value_errors ct__law_value_errors), sl__law_value_errors⟩)
    (x_c__law_value_errors : PySem.W.codeIn K cd__law_value_errors "_law_value_errors" = true)
    (x_k__law_value_errors : PySem.W.keepIn K (.ref f__law_value_errors) = true)
    (x_a__law_index_errors : PySem.W.nsIn K mainGlobals "_law_index_errors" = some (some (.ref f__law_index_errors)))
    (x_i__law_index_errors : PySem.W.isFn K (.ref f__law_index_errors) = true)
    (x_l__law_index_errors : K.lookup f__law_index_errors = some ⟨oc__law_index_errors, od__law_index_errors, .func (PySem.W.fnOf "_law_index_errors" "_law_index_errors" (L2.defArgs s__law_index_errors) (L2.defBody s__law_index_errors) (L2.defScope s__law_index_errors) .none kV__law_index_errors dc__law_index_errors pm__law_index_errors an__law_index_errors cd__law_index_errors ct__law_index_errors), sl__law_index_errors⟩)
    (x_c__law_index_errors : PySem.W.codeIn K cd__law_index_errors "_law_index_errors" = true)
    (x_k__law_index_errors : PySem.W.keepIn K (.ref f__law_index_errors) = true)
    (x_a__law_instances : PySem.W.nsIn K mainGlobals "_law_instances" = some (some (.ref f__law_instances)))
    (x_i__law_instances : PySem.W.isFn K (.ref f__law_instances) = true)
    (x_l__law_instances : K.lookup f__law_instances = some ⟨oc__law_instances, od__law_instances, .func (PySem.W.fnOf "_law_instances" "_law_instances" (L2.defArgs s__law_instances) (L2.defBody s__law_instances) (L2.defScope s__law_instances) .none kV__law_instances dc__law_instances pm__law_instances an__law_instances cd__law_instances ct__law_instances), sl__law_instances⟩)
    (x_c__law_instances : PySem.W.codeIn K cd__law_instances "_law_instances" = true)
    (x_k__law_instances : PySem.W.keepIn K (.ref f__law_instances) = true)
    (x_a__law_bases : PySem.W.nsIn K mainGlobals "_law_bases" = some (some (.ref f__law_bases)))
    (x_i__law_bases : PySem.W.isFn K (.ref f__law_bases) = true)
    (x_l__law_bases : K.lookup f__law_bases = some ⟨oc__law_bases, od__law_bases, .func (PySem.W.fnOf "_law_bases" "_law_bases" (L2.defArgs s__law_bases) (L2.defBody s__law_bases) (L2.defScope s__law_bases) .none kV__law_bases dc__law_bases pm__law_bases an__law_bases cd__law_bases ct__law_bases), sl__law_bases⟩)
    (x_c__law_bases : PySem.W.codeIn K cd__law_bases "_law_bases" = true)
    (x_k__law_bases : PySem.W.keepIn K (.ref f__law_bases) = true)
    (x_a__law_right : PySem.W.nsIn K mainGlobals "_law_right" = some (some (.ref f__law_right)))
    (x_i__law_right : PySem.W.isFn K (.ref f__law_right) = true)
    (x_l__law_right : K.lookup f__law_right = some ⟨oc__law_right, od__law_right, .func (PySem.W.fnOf "_law_right" "_law_right" (L2.defArgs s__law_right) (L2.defBody s__law_right) (L2.defScope s__law_right) .none kV__law_right dc__law_right pm__law_right an__law_right cd__law_right ct__law_right), sl__law_right⟩)
    (x_c__law_right : PySem.W.codeIn K cd__law_right "_law_right" = true)
    (x_k__law_right : PySem.W.keepIn K (.ref f__law_right) = true)
    (x_a_law : PySem.W.nsIn K mainGlobals "law" = some (some (.ref f_law)))
    (x_i_law : PySem.W.isFn K (.ref f_law) = true)
    (x_l_law : K.lookup f_law = some ⟨oc_law, od_law, .func (PySem.W.fnOf "law" "law" (L2.defArgs s_law) (L2.defBody s_law) (L2.defScope s_law) .none kV_law dc_law pm_law an_law cd_law ct_law), sl_law⟩)
    (x_c_law : PySem.W.codeIn K cd_law "law" = true)
    (x_k_law : PySem.W.keepIn K (.ref f_law) = true) : ∃ T : Tx K mg, T.f_law = f_law := by
  exact ⟨⟨PySem.W.mg_none_of X G x_n_ArithmeticError,
    PySem.W.mg_none_of X G x_n_LookupError,
    PySem.W.mg_none_of X G x_n_ValueError,
    PySem.W.mg_none_of X G x_n_abs,
    PySem.W.mg_none_of X G x_n_all,
    PySem.W.mg_none_of X G x_n_divmod,
    PySem.W.mg_none_of X G x_n_int,
    PySem.W.mg_none_of X G x_n_isinstance,
    PySem.W.mg_none_of X G x_n_len,
    PySem.W.mg_none_of X G x_n_max,
    PySem.W.mg_none_of X G x_n_min,
    PySem.W.mg_none_of X G x_n_range,
    PySem.W.mg_none_of X G x_n_repr,
    ⟨_, PySem.W.mg_of X G x_k_MOST_SIGNS, _, rfl⟩,
    ⟨_, PySem.W.mg_of X G x_k_MOST_MARK, _, rfl⟩,
    ⟨_, PySem.W.mg_of X G x_k_MOST_ROW, _, rfl⟩,
    ⟨_, PySem.W.mg_of X G x_k_MOST_VIEWS, _, rfl⟩,
    ⟨_, PySem.W.mg_of X G x_k_MOST_TEXT, _, rfl⟩,
    ⟨_, PySem.W.mg_of X G x_k_MOST_LENGTH, _, rfl⟩,
    ⟨_, PySem.W.mg_of X G x_k_MOST_LISTED, _, rfl⟩,
    ⟨_, PySem.W.mg_of X G x_k_MOST_SHELVED, _, rfl⟩,
    C_InputError,
    PySem.W.mg_of X G x_C_InputError,
    C_StateError,
    PySem.W.mg_of X G x_C_StateError,
    C_SizeError,
    PySem.W.mg_of X G x_C_SizeError,
    C_InvalidNumber,
    PySem.W.mg_of X G x_C_InvalidNumber,
    C_InvalidMark,
    PySem.W.mg_of X G x_C_InvalidMark,
    C_InvalidText,
    PySem.W.mg_of X G x_C_InvalidText,
    C_InvalidLength,
    PySem.W.mg_of X G x_C_InvalidLength,
    C_InvalidRule,
    PySem.W.mg_of X G x_C_InvalidRule,
    C_InvalidWidth,
    PySem.W.mg_of X G x_C_InvalidWidth,
    C_InvalidPlace,
    PySem.W.mg_of X G x_C_InvalidPlace,
    C_InvalidLine,
    PySem.W.mg_of X G x_C_InvalidLine,
    C_NotANamer,
    PySem.W.mg_of X G x_C_NotANamer,
    C_NotAShelf,
    PySem.W.mg_of X G x_C_NotAShelf,
    C_InvalidRow,
    PySem.W.mg_of X G x_C_InvalidRow,
    C_InvalidViews,
    PySem.W.mg_of X G x_C_InvalidViews,
    C_InvalidTexts,
    PySem.W.mg_of X G x_C_InvalidTexts,
    C_InvalidDeeds,
    PySem.W.mg_of X G x_C_InvalidDeeds,
    C_NothingToUndo,
    PySem.W.mg_of X G x_C_NothingToUndo,
    C_Busy,
    PySem.W.mg_of X G x_C_Busy,
    C_UnknownName,
    PySem.W.mg_of X G x_C_UnknownName,
    C_TooMany,
    PySem.W.mg_of X G x_C_TooMany,
    ⟨⟨nm_InvalidNumber, q_InvalidNumber, N_InvalidNumber, bs_InvalidNumber, bm_InvalidNumber, sn_InvalidNumber, sub_InvalidNumber, ab_InvalidNumber, col_InvalidNumber, dd_InvalidNumber, e0_InvalidNumber, e1_InvalidNumber, e2_InvalidNumber, e3_InvalidNumber, e5_InvalidNumber, x_L_InvalidNumber, x_me_R_InvalidNumber⟩, x_xs_InvalidNumber, x_xe_InvalidNumber, x_xt_InvalidNumber, x_xk_InvalidNumber⟩,
    x_na_InvalidNumber_value,
    f_InvalidNumber___init__,
    _,
    (fun_mk (st := s_InvalidNumber___init__) x_l_InvalidNumber___init__ x_c_InvalidNumber___init__ x_k_InvalidNumber___init__),
    (fun_mk (st := s_InvalidNumber___init__) x_l_InvalidNumber___init__ x_c_InvalidNumber___init__ x_k_InvalidNumber___init__).binds (ps := p_InvalidNumber___init__) fun _ _ _ _ _ _ us hl => match us, hl with | [_, _], _ => rfl,
    x_a_InvalidNumber___init__,
    x_j_InvalidNumber___init__,
    kbn_of (fun_mk (st := s_InvalidNumber___init__) x_l_InvalidNumber___init__ x_c_InvalidNumber___init__ x_k_InvalidNumber___init__) rel0 (fun _ _ _ _ _ _ us ws h1 h2 => match us, ws, h1, h2 with | [_], [_], _, _ => rfl),
    ⟨⟨nm_InvalidMark, q_InvalidMark, N_InvalidMark, bs_InvalidMark, bm_InvalidMark, sn_InvalidMark, sub_InvalidMark, ab_InvalidMark, col_InvalidMark, dd_InvalidMark, e0_InvalidMark, e1_InvalidMark, e2_InvalidMark, e3_InvalidMark, e5_InvalidMark, x_L_InvalidMark, x_me_R_InvalidMark⟩, x_xs_InvalidMark, x_xe_InvalidMark, x_xt_InvalidMark, x_xk_InvalidMark⟩,
    x_na_InvalidMark_value,
    f_InvalidMark___init__,
    _,
    (fun_mk (st := s_InvalidMark___init__) x_l_InvalidMark___init__ x_c_InvalidMark___init__ x_k_InvalidMark___init__),
    (fun_mk (st := s_InvalidMark___init__) x_l_InvalidMark___init__ x_c_InvalidMark___init__ x_k_InvalidMark___init__).binds (ps := p_InvalidMark___init__) fun _ _ _ _ _ _ us hl => match us, hl with | [_, _], _ => rfl,
    x_a_InvalidMark___init__,
    x_j_InvalidMark___init__,
    kbn_of (fun_mk (st := s_InvalidMark___init__) x_l_InvalidMark___init__ x_c_InvalidMark___init__ x_k_InvalidMark___init__) rel0 (fun _ _ _ _ _ _ us ws h1 h2 => match us, ws, h1, h2 with | [_], [_], _, _ => rfl),
    ⟨⟨nm_InvalidText, q_InvalidText, N_InvalidText, bs_InvalidText, bm_InvalidText, sn_InvalidText, sub_InvalidText, ab_InvalidText, col_InvalidText, dd_InvalidText, e0_InvalidText, e1_InvalidText, e2_InvalidText, e3_InvalidText, e5_InvalidText, x_L_InvalidText, x_me_R_InvalidText⟩, x_xs_InvalidText, x_xe_InvalidText, x_xt_InvalidText, x_xk_InvalidText⟩,
    x_na_InvalidText_value,
    f_InvalidText___init__,
    _,
    (fun_mk (st := s_InvalidText___init__) x_l_InvalidText___init__ x_c_InvalidText___init__ x_k_InvalidText___init__),
    (fun_mk (st := s_InvalidText___init__) x_l_InvalidText___init__ x_c_InvalidText___init__ x_k_InvalidText___init__).binds (ps := p_InvalidText___init__) fun _ _ _ _ _ _ us hl => match us, hl with | [_, _], _ => rfl,
    x_a_InvalidText___init__,
    x_j_InvalidText___init__,
    kbn_of (fun_mk (st := s_InvalidText___init__) x_l_InvalidText___init__ x_c_InvalidText___init__ x_k_InvalidText___init__) rel0 (fun _ _ _ _ _ _ us ws h1 h2 => match us, ws, h1, h2 with | [_], [_], _, _ => rfl),
    ⟨⟨nm_InvalidLength, q_InvalidLength, N_InvalidLength, bs_InvalidLength, bm_InvalidLength, sn_InvalidLength, sub_InvalidLength, ab_InvalidLength, col_InvalidLength, dd_InvalidLength, e0_InvalidLength, e1_InvalidLength, e2_InvalidLength, e3_InvalidLength, e5_InvalidLength, x_L_InvalidLength, x_me_R_InvalidLength⟩, x_xs_InvalidLength, x_xe_InvalidLength, x_xt_InvalidLength, x_xk_InvalidLength⟩,
    x_na_InvalidLength_value,
    f_InvalidLength___init__,
    _,
    (fun_mk (st := s_InvalidLength___init__) x_l_InvalidLength___init__ x_c_InvalidLength___init__ x_k_InvalidLength___init__),
    (fun_mk (st := s_InvalidLength___init__) x_l_InvalidLength___init__ x_c_InvalidLength___init__ x_k_InvalidLength___init__).binds (ps := p_InvalidLength___init__) fun _ _ _ _ _ _ us hl => match us, hl with | [_, _], _ => rfl,
    x_a_InvalidLength___init__,
    x_j_InvalidLength___init__,
    kbn_of (fun_mk (st := s_InvalidLength___init__) x_l_InvalidLength___init__ x_c_InvalidLength___init__ x_k_InvalidLength___init__) rel0 (fun _ _ _ _ _ _ us ws h1 h2 => match us, ws, h1, h2 with | [_], [_], _, _ => rfl),
    ⟨⟨nm_InvalidRule, q_InvalidRule, N_InvalidRule, bs_InvalidRule, bm_InvalidRule, sn_InvalidRule, sub_InvalidRule, ab_InvalidRule, col_InvalidRule, dd_InvalidRule, e0_InvalidRule, e1_InvalidRule, e2_InvalidRule, e3_InvalidRule, e5_InvalidRule, x_L_InvalidRule, x_me_R_InvalidRule⟩, x_xs_InvalidRule, x_xe_InvalidRule, x_xt_InvalidRule, x_xk_InvalidRule⟩,
    x_na_InvalidRule_value,
    f_InvalidRule___init__,
    _,
    (fun_mk (st := s_InvalidRule___init__) x_l_InvalidRule___init__ x_c_InvalidRule___init__ x_k_InvalidRule___init__),
    (fun_mk (st := s_InvalidRule___init__) x_l_InvalidRule___init__ x_c_InvalidRule___init__ x_k_InvalidRule___init__).binds (ps := p_InvalidRule___init__) fun _ _ _ _ _ _ us hl => match us, hl with | [_, _], _ => rfl,
    x_a_InvalidRule___init__,
    x_j_InvalidRule___init__,
    kbn_of (fun_mk (st := s_InvalidRule___init__) x_l_InvalidRule___init__ x_c_InvalidRule___init__ x_k_InvalidRule___init__) rel0 (fun _ _ _ _ _ _ us ws h1 h2 => match us, ws, h1, h2 with | [_], [_], _, _ => rfl),
    ⟨⟨nm_InvalidWidth, q_InvalidWidth, N_InvalidWidth, bs_InvalidWidth, bm_InvalidWidth, sn_InvalidWidth, sub_InvalidWidth, ab_InvalidWidth, col_InvalidWidth, dd_InvalidWidth, e0_InvalidWidth, e1_InvalidWidth, e2_InvalidWidth, e3_InvalidWidth, e5_InvalidWidth, x_L_InvalidWidth, x_me_R_InvalidWidth⟩, x_xs_InvalidWidth, x_xe_InvalidWidth, x_xt_InvalidWidth, x_xk_InvalidWidth⟩,
    x_na_InvalidWidth_value,
    f_InvalidWidth___init__,
    _,
    (fun_mk (st := s_InvalidWidth___init__) x_l_InvalidWidth___init__ x_c_InvalidWidth___init__ x_k_InvalidWidth___init__),
    (fun_mk (st := s_InvalidWidth___init__) x_l_InvalidWidth___init__ x_c_InvalidWidth___init__ x_k_InvalidWidth___init__).binds (ps := p_InvalidWidth___init__) fun _ _ _ _ _ _ us hl => match us, hl with | [_, _], _ => rfl,
    x_a_InvalidWidth___init__,
    x_j_InvalidWidth___init__,
    kbn_of (fun_mk (st := s_InvalidWidth___init__) x_l_InvalidWidth___init__ x_c_InvalidWidth___init__ x_k_InvalidWidth___init__) rel0 (fun _ _ _ _ _ _ us ws h1 h2 => match us, ws, h1, h2 with | [_], [_], _, _ => rfl),
    ⟨⟨nm_InvalidPlace, q_InvalidPlace, N_InvalidPlace, bs_InvalidPlace, bm_InvalidPlace, sn_InvalidPlace, sub_InvalidPlace, ab_InvalidPlace, col_InvalidPlace, dd_InvalidPlace, e0_InvalidPlace, e1_InvalidPlace, e2_InvalidPlace, e3_InvalidPlace, e5_InvalidPlace, x_L_InvalidPlace, x_me_R_InvalidPlace⟩, x_xs_InvalidPlace, x_xe_InvalidPlace, x_xt_InvalidPlace, x_xk_InvalidPlace⟩,
    x_na_InvalidPlace_value,
    f_InvalidPlace___init__,
    _,
    (fun_mk (st := s_InvalidPlace___init__) x_l_InvalidPlace___init__ x_c_InvalidPlace___init__ x_k_InvalidPlace___init__),
    (fun_mk (st := s_InvalidPlace___init__) x_l_InvalidPlace___init__ x_c_InvalidPlace___init__ x_k_InvalidPlace___init__).binds (ps := p_InvalidPlace___init__) fun _ _ _ _ _ _ us hl => match us, hl with | [_, _], _ => rfl,
    x_a_InvalidPlace___init__,
    x_j_InvalidPlace___init__,
    kbn_of (fun_mk (st := s_InvalidPlace___init__) x_l_InvalidPlace___init__ x_c_InvalidPlace___init__ x_k_InvalidPlace___init__) rel0 (fun _ _ _ _ _ _ us ws h1 h2 => match us, ws, h1, h2 with | [_], [_], _, _ => rfl),
    ⟨⟨nm_InvalidLine, q_InvalidLine, N_InvalidLine, bs_InvalidLine, bm_InvalidLine, sn_InvalidLine, sub_InvalidLine, ab_InvalidLine, col_InvalidLine, dd_InvalidLine, e0_InvalidLine, e1_InvalidLine, e2_InvalidLine, e3_InvalidLine, e5_InvalidLine, x_L_InvalidLine, x_me_R_InvalidLine⟩, x_xs_InvalidLine, x_xe_InvalidLine, x_xt_InvalidLine, x_xk_InvalidLine⟩,
    x_na_InvalidLine_value,
    f_InvalidLine___init__,
    _,
    (fun_mk (st := s_InvalidLine___init__) x_l_InvalidLine___init__ x_c_InvalidLine___init__ x_k_InvalidLine___init__),
    (fun_mk (st := s_InvalidLine___init__) x_l_InvalidLine___init__ x_c_InvalidLine___init__ x_k_InvalidLine___init__).binds (ps := p_InvalidLine___init__) fun _ _ _ _ _ _ us hl => match us, hl with | [_, _], _ => rfl,
    x_a_InvalidLine___init__,
    x_j_InvalidLine___init__,
    kbn_of (fun_mk (st := s_InvalidLine___init__) x_l_InvalidLine___init__ x_c_InvalidLine___init__ x_k_InvalidLine___init__) rel0 (fun _ _ _ _ _ _ us ws h1 h2 => match us, ws, h1, h2 with | [_], [_], _, _ => rfl),
    ⟨⟨nm_NotANamer, q_NotANamer, N_NotANamer, bs_NotANamer, bm_NotANamer, sn_NotANamer, sub_NotANamer, ab_NotANamer, col_NotANamer, dd_NotANamer, e0_NotANamer, e1_NotANamer, e2_NotANamer, e3_NotANamer, e5_NotANamer, x_L_NotANamer, x_me_R_NotANamer⟩, x_xs_NotANamer, x_xe_NotANamer, x_xt_NotANamer, x_xk_NotANamer⟩,
    x_na_NotANamer_value,
    f_NotANamer___init__,
    _,
    (fun_mk (st := s_NotANamer___init__) x_l_NotANamer___init__ x_c_NotANamer___init__ x_k_NotANamer___init__),
    (fun_mk (st := s_NotANamer___init__) x_l_NotANamer___init__ x_c_NotANamer___init__ x_k_NotANamer___init__).binds (ps := p_NotANamer___init__) fun _ _ _ _ _ _ us hl => match us, hl with | [_, _], _ => rfl,
    x_a_NotANamer___init__,
    x_j_NotANamer___init__,
    kbn_of (fun_mk (st := s_NotANamer___init__) x_l_NotANamer___init__ x_c_NotANamer___init__ x_k_NotANamer___init__) rel0 (fun _ _ _ _ _ _ us ws h1 h2 => match us, ws, h1, h2 with | [_], [_], _, _ => rfl),
    ⟨⟨nm_NotAShelf, q_NotAShelf, N_NotAShelf, bs_NotAShelf, bm_NotAShelf, sn_NotAShelf, sub_NotAShelf, ab_NotAShelf, col_NotAShelf, dd_NotAShelf, e0_NotAShelf, e1_NotAShelf, e2_NotAShelf, e3_NotAShelf, e5_NotAShelf, x_L_NotAShelf, x_me_R_NotAShelf⟩, x_xs_NotAShelf, x_xe_NotAShelf, x_xt_NotAShelf, x_xk_NotAShelf⟩,
    x_na_NotAShelf_value,
    f_NotAShelf___init__,
    _,
    (fun_mk (st := s_NotAShelf___init__) x_l_NotAShelf___init__ x_c_NotAShelf___init__ x_k_NotAShelf___init__),
    (fun_mk (st := s_NotAShelf___init__) x_l_NotAShelf___init__ x_c_NotAShelf___init__ x_k_NotAShelf___init__).binds (ps := p_NotAShelf___init__) fun _ _ _ _ _ _ us hl => match us, hl with | [_, _], _ => rfl,
    x_a_NotAShelf___init__,
    x_j_NotAShelf___init__,
    kbn_of (fun_mk (st := s_NotAShelf___init__) x_l_NotAShelf___init__ x_c_NotAShelf___init__ x_k_NotAShelf___init__) rel0 (fun _ _ _ _ _ _ us ws h1 h2 => match us, ws, h1, h2 with | [_], [_], _, _ => rfl),
    ⟨⟨nm_InvalidRow, q_InvalidRow, N_InvalidRow, bs_InvalidRow, bm_InvalidRow, sn_InvalidRow, sub_InvalidRow, ab_InvalidRow, col_InvalidRow, dd_InvalidRow, e0_InvalidRow, e1_InvalidRow, e2_InvalidRow, e3_InvalidRow, e5_InvalidRow, x_L_InvalidRow, x_me_R_InvalidRow⟩, x_xs_InvalidRow, x_xe_InvalidRow, x_xt_InvalidRow, x_xk_InvalidRow⟩,
    x_na_InvalidRow_index,
    f_InvalidRow___init__,
    _,
    (fun_mk (st := s_InvalidRow___init__) x_l_InvalidRow___init__ x_c_InvalidRow___init__ x_k_InvalidRow___init__),
    (fun_mk (st := s_InvalidRow___init__) x_l_InvalidRow___init__ x_c_InvalidRow___init__ x_k_InvalidRow___init__).binds (ps := p_InvalidRow___init__) fun _ _ _ _ _ _ us hl => match us, hl with | [_, _], _ => rfl,
    x_a_InvalidRow___init__,
    x_j_InvalidRow___init__,
    kbn_of (fun_mk (st := s_InvalidRow___init__) x_l_InvalidRow___init__ x_c_InvalidRow___init__ x_k_InvalidRow___init__) rel0 (fun _ _ _ _ _ _ us ws h1 h2 => match us, ws, h1, h2 with | [_], [_], _, _ => rfl),
    ⟨⟨nm_InvalidViews, q_InvalidViews, N_InvalidViews, bs_InvalidViews, bm_InvalidViews, sn_InvalidViews, sub_InvalidViews, ab_InvalidViews, col_InvalidViews, dd_InvalidViews, e0_InvalidViews, e1_InvalidViews, e2_InvalidViews, e3_InvalidViews, e5_InvalidViews, x_L_InvalidViews, x_me_R_InvalidViews⟩, x_xs_InvalidViews, x_xe_InvalidViews, x_xt_InvalidViews, x_xk_InvalidViews⟩,
    x_na_InvalidViews_index,
    f_InvalidViews___init__,
    _,
    (fun_mk (st := s_InvalidViews___init__) x_l_InvalidViews___init__ x_c_InvalidViews___init__ x_k_InvalidViews___init__),
    (fun_mk (st := s_InvalidViews___init__) x_l_InvalidViews___init__ x_c_InvalidViews___init__ x_k_InvalidViews___init__).binds (ps := p_InvalidViews___init__) fun _ _ _ _ _ _ us hl => match us, hl with | [_, _], _ => rfl,
    x_a_InvalidViews___init__,
    x_j_InvalidViews___init__,
    kbn_of (fun_mk (st := s_InvalidViews___init__) x_l_InvalidViews___init__ x_c_InvalidViews___init__ x_k_InvalidViews___init__) rel0 (fun _ _ _ _ _ _ us ws h1 h2 => match us, ws, h1, h2 with | [_], [_], _, _ => rfl),
    ⟨⟨nm_InvalidTexts, q_InvalidTexts, N_InvalidTexts, bs_InvalidTexts, bm_InvalidTexts, sn_InvalidTexts, sub_InvalidTexts, ab_InvalidTexts, col_InvalidTexts, dd_InvalidTexts, e0_InvalidTexts, e1_InvalidTexts, e2_InvalidTexts, e3_InvalidTexts, e5_InvalidTexts, x_L_InvalidTexts, x_me_R_InvalidTexts⟩, x_xs_InvalidTexts, x_xe_InvalidTexts, x_xt_InvalidTexts, x_xk_InvalidTexts⟩,
    x_na_InvalidTexts_index,
    f_InvalidTexts___init__,
    _,
    (fun_mk (st := s_InvalidTexts___init__) x_l_InvalidTexts___init__ x_c_InvalidTexts___init__ x_k_InvalidTexts___init__),
    (fun_mk (st := s_InvalidTexts___init__) x_l_InvalidTexts___init__ x_c_InvalidTexts___init__ x_k_InvalidTexts___init__).binds (ps := p_InvalidTexts___init__) fun _ _ _ _ _ _ us hl => match us, hl with | [_, _], _ => rfl,
    x_a_InvalidTexts___init__,
    x_j_InvalidTexts___init__,
    kbn_of (fun_mk (st := s_InvalidTexts___init__) x_l_InvalidTexts___init__ x_c_InvalidTexts___init__ x_k_InvalidTexts___init__) rel0 (fun _ _ _ _ _ _ us ws h1 h2 => match us, ws, h1, h2 with | [_], [_], _, _ => rfl),
    ⟨⟨nm_InvalidDeeds, q_InvalidDeeds, N_InvalidDeeds, bs_InvalidDeeds, bm_InvalidDeeds, sn_InvalidDeeds, sub_InvalidDeeds, ab_InvalidDeeds, col_InvalidDeeds, dd_InvalidDeeds, e0_InvalidDeeds, e1_InvalidDeeds, e2_InvalidDeeds, e3_InvalidDeeds, e5_InvalidDeeds, x_L_InvalidDeeds, x_me_R_InvalidDeeds⟩, x_xs_InvalidDeeds, x_xe_InvalidDeeds, x_xt_InvalidDeeds, x_xk_InvalidDeeds⟩,
    x_na_InvalidDeeds_index,
    f_InvalidDeeds___init__,
    _,
    (fun_mk (st := s_InvalidDeeds___init__) x_l_InvalidDeeds___init__ x_c_InvalidDeeds___init__ x_k_InvalidDeeds___init__),
    (fun_mk (st := s_InvalidDeeds___init__) x_l_InvalidDeeds___init__ x_c_InvalidDeeds___init__ x_k_InvalidDeeds___init__).binds (ps := p_InvalidDeeds___init__) fun _ _ _ _ _ _ us hl => match us, hl with | [_, _], _ => rfl,
    x_a_InvalidDeeds___init__,
    x_j_InvalidDeeds___init__,
    kbn_of (fun_mk (st := s_InvalidDeeds___init__) x_l_InvalidDeeds___init__ x_c_InvalidDeeds___init__ x_k_InvalidDeeds___init__) rel0 (fun _ _ _ _ _ _ us ws h1 h2 => match us, ws, h1, h2 with | [_], [_], _, _ => rfl),
    ⟨PySem.F.excBase_LookupError, V.pass_lookup, rfl, ⟨nm_UnknownName, q_UnknownName, N_UnknownName, bs_UnknownName, bm_UnknownName, sn_UnknownName, sub_UnknownName, ab_UnknownName, col_UnknownName, dd_UnknownName, e0_UnknownName, e1_UnknownName, e2_UnknownName, e3_UnknownName, e5_UnknownName, x_L_UnknownName, x_me_R_UnknownName⟩, x_xs_UnknownName, x_xe_UnknownName, x_xt_UnknownName, x_xk_UnknownName⟩,
    x_na_UnknownName_value,
    f_UnknownName___init__,
    _,
    (fun_mk (st := s_UnknownName___init__) x_l_UnknownName___init__ x_c_UnknownName___init__ x_k_UnknownName___init__),
    (fun_mk (st := s_UnknownName___init__) x_l_UnknownName___init__ x_c_UnknownName___init__ x_k_UnknownName___init__).binds (ps := p_UnknownName___init__) fun _ _ _ _ _ _ us hl => match us, hl with | [_, _], _ => rfl,
    x_a_UnknownName___init__,
    x_j_UnknownName___init__,
    kbn_of (fun_mk (st := s_UnknownName___init__) x_l_UnknownName___init__ x_c_UnknownName___init__ x_k_UnknownName___init__) rel0 (fun _ _ _ _ _ _ us ws h1 h2 => match us, ws, h1, h2 with | [_], [_], _, _ => rfl),
    ⟨PySem.F.excBase_ArithmeticError, V.pass_arith, rfl, ⟨nm_TooMany, q_TooMany, N_TooMany, bs_TooMany, bm_TooMany, sn_TooMany, sub_TooMany, ab_TooMany, col_TooMany, dd_TooMany, e0_TooMany, e1_TooMany, e2_TooMany, e3_TooMany, e5_TooMany, x_L_TooMany, x_me_R_TooMany⟩, x_xs_TooMany, x_xe_TooMany, x_xt_TooMany, x_xk_TooMany⟩,
    x_na_TooMany_limit,
    f_TooMany___init__,
    _,
    (fun_mk (st := s_TooMany___init__) x_l_TooMany___init__ x_c_TooMany___init__ x_k_TooMany___init__),
    (fun_mk (st := s_TooMany___init__) x_l_TooMany___init__ x_c_TooMany___init__ x_k_TooMany___init__).binds (ps := p_TooMany___init__) fun _ _ _ _ _ _ us hl => match us, hl with | [_, _], _ => rfl,
    x_a_TooMany___init__,
    x_j_TooMany___init__,
    kbn_of (fun_mk (st := s_TooMany___init__) x_l_TooMany___init__ x_c_TooMany___init__ x_k_TooMany___init__) rel0 (fun _ _ _ _ _ _ us ws h1 h2 => match us, ws, h1, h2 with | [_], [_], _, _ => rfl),
    x_me_q_NothingToUndo,
    x_kq_NothingToUndo,
    x_bq_NothingToUndo,
    x_tq_NothingToUndo,
    x_me_q_Busy,
    x_kq_Busy,
    x_bq_Busy,
    x_tq_Busy,
    ⟨x_ga_InvalidNumber, x_gg_InvalidNumber, x_xe_InvalidNumber, x_xd_InvalidNumber⟩,
    ⟨x_ga_InvalidNumber, x_gg_InvalidNumber, x_xe_InvalidNumber, x_xd_InvalidNumber, x_xa_InvalidNumber, x_xn_InvalidNumber, x_xq_InvalidNumber, x_xm_InvalidNumber⟩,
    x_me_kr_InvalidNumber_0,
    x_me_kr_InvalidNumber_1,
    x_me_kr_InvalidNumber_2,
    x_me_kr_InvalidNumber_3,
    x_me_kr_InvalidNumber_4,
    x_me_kr_InvalidNumber_5,
    x_me_kr_InvalidNumber_6,
    x_me_kr_InvalidNumber_7,
    x_me_kr_InvalidNumber_8,
    x_me_kr_InvalidNumber_9,
    x_me_kr_InvalidNumber_10,
    x_me_kr_InvalidNumber_11,
    x_me_kr_InvalidNumber_12,
    x_me_kr_InvalidNumber_13,
    x_me_kr_InvalidNumber_14,
    x_me_kr_InvalidNumber_15,
    x_me_kr_InvalidNumber_16,
    x_me_kr_InvalidNumber_17,
    x_me_kr_InvalidNumber_18,
    x_me_kr_InvalidNumber_19,
    x_me_kr_InvalidNumber_20,
    x_me_kr_InvalidNumber_21,
    x_me_kr_InvalidNumber_22,
    x_me_kr_InvalidNumber_23,
    ⟨x_ga_InvalidMark, x_gg_InvalidMark, x_xe_InvalidMark, x_xd_InvalidMark⟩,
    ⟨x_ga_InvalidMark, x_gg_InvalidMark, x_xe_InvalidMark, x_xd_InvalidMark, x_xa_InvalidMark, x_xn_InvalidMark, x_xq_InvalidMark, x_xm_InvalidMark⟩,
    x_me_kr_InvalidMark_0,
    x_me_kr_InvalidMark_1,
    x_me_kr_InvalidMark_2,
    x_me_kr_InvalidMark_3,
    x_me_kr_InvalidMark_4,
    x_me_kr_InvalidMark_5,
    x_me_kr_InvalidMark_6,
    x_me_kr_InvalidMark_7,
    x_me_kr_InvalidMark_8,
    x_me_kr_InvalidMark_9,
    x_me_kr_InvalidMark_10,
    x_me_kr_InvalidMark_11,
    x_me_kr_InvalidMark_12,
    x_me_kr_InvalidMark_13,
    x_me_kr_InvalidMark_14,
    x_me_kr_InvalidMark_15,
    x_me_kr_InvalidMark_16,
    x_me_kr_InvalidMark_17,
    x_me_kr_InvalidMark_18,
    x_me_kr_InvalidMark_19,
    x_me_kr_InvalidMark_20,
    x_me_kr_InvalidMark_21,
    x_me_kr_InvalidMark_22,
    x_me_kr_InvalidMark_23,
    ⟨x_ga_InvalidText, x_gg_InvalidText, x_xe_InvalidText, x_xd_InvalidText⟩,
    ⟨x_ga_InvalidText, x_gg_InvalidText, x_xe_InvalidText, x_xd_InvalidText, x_xa_InvalidText, x_xn_InvalidText, x_xq_InvalidText, x_xm_InvalidText⟩,
    x_me_kr_InvalidText_0,
    x_me_kr_InvalidText_1,
    x_me_kr_InvalidText_2,
    x_me_kr_InvalidText_3,
    x_me_kr_InvalidText_4,
    x_me_kr_InvalidText_5,
    x_me_kr_InvalidText_6,
    x_me_kr_InvalidText_7,
    x_me_kr_InvalidText_8,
    x_me_kr_InvalidText_9,
    x_me_kr_InvalidText_10,
    x_me_kr_InvalidText_11,
    x_me_kr_InvalidText_12,
    x_me_kr_InvalidText_13,
    x_me_kr_InvalidText_14,
    x_me_kr_InvalidText_15,
    x_me_kr_InvalidText_16,
    x_me_kr_InvalidText_17,
    x_me_kr_InvalidText_18,
    x_me_kr_InvalidText_19,
    x_me_kr_InvalidText_20,
    x_me_kr_InvalidText_21,
    x_me_kr_InvalidText_22,
    x_me_kr_InvalidText_23,
    ⟨x_ga_InvalidLength, x_gg_InvalidLength, x_xe_InvalidLength, x_xd_InvalidLength⟩,
    ⟨x_ga_InvalidLength, x_gg_InvalidLength, x_xe_InvalidLength, x_xd_InvalidLength, x_xa_InvalidLength, x_xn_InvalidLength, x_xq_InvalidLength, x_xm_InvalidLength⟩,
    x_me_kr_InvalidLength_0,
    x_me_kr_InvalidLength_1,
    x_me_kr_InvalidLength_2,
    x_me_kr_InvalidLength_3,
    x_me_kr_InvalidLength_4,
    x_me_kr_InvalidLength_5,
    x_me_kr_InvalidLength_6,
    x_me_kr_InvalidLength_7,
    x_me_kr_InvalidLength_8,
    x_me_kr_InvalidLength_9,
    x_me_kr_InvalidLength_10,
    x_me_kr_InvalidLength_11,
    x_me_kr_InvalidLength_12,
    x_me_kr_InvalidLength_13,
    x_me_kr_InvalidLength_14,
    x_me_kr_InvalidLength_15,
    x_me_kr_InvalidLength_16,
    x_me_kr_InvalidLength_17,
    x_me_kr_InvalidLength_18,
    x_me_kr_InvalidLength_19,
    x_me_kr_InvalidLength_20,
    x_me_kr_InvalidLength_21,
    x_me_kr_InvalidLength_22,
    x_me_kr_InvalidLength_23,
    ⟨x_ga_InvalidRule, x_gg_InvalidRule, x_xe_InvalidRule, x_xd_InvalidRule⟩,
    ⟨x_ga_InvalidRule, x_gg_InvalidRule, x_xe_InvalidRule, x_xd_InvalidRule, x_xa_InvalidRule, x_xn_InvalidRule, x_xq_InvalidRule, x_xm_InvalidRule⟩,
    x_me_kr_InvalidRule_0,
    x_me_kr_InvalidRule_1,
    x_me_kr_InvalidRule_2,
    x_me_kr_InvalidRule_3,
    x_me_kr_InvalidRule_4,
    x_me_kr_InvalidRule_5,
    x_me_kr_InvalidRule_6,
    x_me_kr_InvalidRule_7,
    x_me_kr_InvalidRule_8,
    x_me_kr_InvalidRule_9,
    x_me_kr_InvalidRule_10,
    x_me_kr_InvalidRule_11,
    x_me_kr_InvalidRule_12,
    x_me_kr_InvalidRule_13,
    x_me_kr_InvalidRule_14,
    x_me_kr_InvalidRule_15,
    x_me_kr_InvalidRule_16,
    x_me_kr_InvalidRule_17,
    x_me_kr_InvalidRule_18,
    x_me_kr_InvalidRule_19,
    x_me_kr_InvalidRule_20,
    x_me_kr_InvalidRule_21,
    x_me_kr_InvalidRule_22,
    x_me_kr_InvalidRule_23,
    ⟨x_ga_InvalidWidth, x_gg_InvalidWidth, x_xe_InvalidWidth, x_xd_InvalidWidth⟩,
    ⟨x_ga_InvalidWidth, x_gg_InvalidWidth, x_xe_InvalidWidth, x_xd_InvalidWidth, x_xa_InvalidWidth, x_xn_InvalidWidth, x_xq_InvalidWidth, x_xm_InvalidWidth⟩,
    x_me_kr_InvalidWidth_0,
    x_me_kr_InvalidWidth_1,
    x_me_kr_InvalidWidth_2,
    x_me_kr_InvalidWidth_3,
    x_me_kr_InvalidWidth_4,
    x_me_kr_InvalidWidth_5,
    x_me_kr_InvalidWidth_6,
    x_me_kr_InvalidWidth_7,
    x_me_kr_InvalidWidth_8,
    x_me_kr_InvalidWidth_9,
    x_me_kr_InvalidWidth_10,
    x_me_kr_InvalidWidth_11,
    x_me_kr_InvalidWidth_12,
    x_me_kr_InvalidWidth_13,
    x_me_kr_InvalidWidth_14,
    x_me_kr_InvalidWidth_15,
    x_me_kr_InvalidWidth_16,
    x_me_kr_InvalidWidth_17,
    x_me_kr_InvalidWidth_18,
    x_me_kr_InvalidWidth_19,
    x_me_kr_InvalidWidth_20,
    x_me_kr_InvalidWidth_21,
    x_me_kr_InvalidWidth_22,
    x_me_kr_InvalidWidth_23,
    ⟨x_ga_InvalidPlace, x_gg_InvalidPlace, x_xe_InvalidPlace, x_xd_InvalidPlace⟩,
    ⟨x_ga_InvalidPlace, x_gg_InvalidPlace, x_xe_InvalidPlace, x_xd_InvalidPlace, x_xa_InvalidPlace, x_xn_InvalidPlace, x_xq_InvalidPlace, x_xm_InvalidPlace⟩,
    x_me_kr_InvalidPlace_0,
    x_me_kr_InvalidPlace_1,
    x_me_kr_InvalidPlace_2,
    x_me_kr_InvalidPlace_3,
    x_me_kr_InvalidPlace_4,
    x_me_kr_InvalidPlace_5,
    x_me_kr_InvalidPlace_6,
    x_me_kr_InvalidPlace_7,
    x_me_kr_InvalidPlace_8,
    x_me_kr_InvalidPlace_9,
    x_me_kr_InvalidPlace_10,
    x_me_kr_InvalidPlace_11,
    x_me_kr_InvalidPlace_12,
    x_me_kr_InvalidPlace_13,
    x_me_kr_InvalidPlace_14,
    x_me_kr_InvalidPlace_15,
    x_me_kr_InvalidPlace_16,
    x_me_kr_InvalidPlace_17,
    x_me_kr_InvalidPlace_18,
    x_me_kr_InvalidPlace_19,
    x_me_kr_InvalidPlace_20,
    x_me_kr_InvalidPlace_21,
    x_me_kr_InvalidPlace_22,
    x_me_kr_InvalidPlace_23,
    ⟨x_ga_InvalidLine, x_gg_InvalidLine, x_xe_InvalidLine, x_xd_InvalidLine⟩,
    ⟨x_ga_InvalidLine, x_gg_InvalidLine, x_xe_InvalidLine, x_xd_InvalidLine, x_xa_InvalidLine, x_xn_InvalidLine, x_xq_InvalidLine, x_xm_InvalidLine⟩,
    x_me_kr_InvalidLine_0,
    x_me_kr_InvalidLine_1,
    x_me_kr_InvalidLine_2,
    x_me_kr_InvalidLine_3,
    x_me_kr_InvalidLine_4,
    x_me_kr_InvalidLine_5,
    x_me_kr_InvalidLine_6,
    x_me_kr_InvalidLine_7,
    x_me_kr_InvalidLine_8,
    x_me_kr_InvalidLine_9,
    x_me_kr_InvalidLine_10,
    x_me_kr_InvalidLine_11,
    x_me_kr_InvalidLine_12,
    x_me_kr_InvalidLine_13,
    x_me_kr_InvalidLine_14,
    x_me_kr_InvalidLine_15,
    x_me_kr_InvalidLine_16,
    x_me_kr_InvalidLine_17,
    x_me_kr_InvalidLine_18,
    x_me_kr_InvalidLine_19,
    x_me_kr_InvalidLine_20,
    x_me_kr_InvalidLine_21,
    x_me_kr_InvalidLine_22,
    x_me_kr_InvalidLine_23,
    ⟨x_ga_NotANamer, x_gg_NotANamer, x_xe_NotANamer, x_xd_NotANamer⟩,
    ⟨x_ga_NotANamer, x_gg_NotANamer, x_xe_NotANamer, x_xd_NotANamer, x_xa_NotANamer, x_xn_NotANamer, x_xq_NotANamer, x_xm_NotANamer⟩,
    x_me_kr_NotANamer_0,
    x_me_kr_NotANamer_1,
    x_me_kr_NotANamer_2,
    x_me_kr_NotANamer_3,
    x_me_kr_NotANamer_4,
    x_me_kr_NotANamer_5,
    x_me_kr_NotANamer_6,
    x_me_kr_NotANamer_7,
    x_me_kr_NotANamer_8,
    x_me_kr_NotANamer_9,
    x_me_kr_NotANamer_10,
    x_me_kr_NotANamer_11,
    x_me_kr_NotANamer_12,
    x_me_kr_NotANamer_13,
    x_me_kr_NotANamer_14,
    x_me_kr_NotANamer_15,
    x_me_kr_NotANamer_16,
    x_me_kr_NotANamer_17,
    x_me_kr_NotANamer_18,
    x_me_kr_NotANamer_19,
    x_me_kr_NotANamer_20,
    x_me_kr_NotANamer_21,
    x_me_kr_NotANamer_22,
    x_me_kr_NotANamer_23,
    ⟨x_ga_NotAShelf, x_gg_NotAShelf, x_xe_NotAShelf, x_xd_NotAShelf⟩,
    ⟨x_ga_NotAShelf, x_gg_NotAShelf, x_xe_NotAShelf, x_xd_NotAShelf, x_xa_NotAShelf, x_xn_NotAShelf, x_xq_NotAShelf, x_xm_NotAShelf⟩,
    x_me_kr_NotAShelf_0,
    x_me_kr_NotAShelf_1,
    x_me_kr_NotAShelf_2,
    x_me_kr_NotAShelf_3,
    x_me_kr_NotAShelf_4,
    x_me_kr_NotAShelf_5,
    x_me_kr_NotAShelf_6,
    x_me_kr_NotAShelf_7,
    x_me_kr_NotAShelf_8,
    x_me_kr_NotAShelf_9,
    x_me_kr_NotAShelf_10,
    x_me_kr_NotAShelf_11,
    x_me_kr_NotAShelf_12,
    x_me_kr_NotAShelf_13,
    x_me_kr_NotAShelf_14,
    x_me_kr_NotAShelf_15,
    x_me_kr_NotAShelf_16,
    x_me_kr_NotAShelf_17,
    x_me_kr_NotAShelf_18,
    x_me_kr_NotAShelf_19,
    x_me_kr_NotAShelf_20,
    x_me_kr_NotAShelf_21,
    x_me_kr_NotAShelf_22,
    x_me_kr_NotAShelf_23,
    ⟨x_ga_InvalidRow, x_gg_InvalidRow, x_xe_InvalidRow, x_xd_InvalidRow⟩,
    ⟨x_ga_InvalidRow, x_gg_InvalidRow, x_xe_InvalidRow, x_xd_InvalidRow, x_xa_InvalidRow, x_xn_InvalidRow, x_xq_InvalidRow, x_xm_InvalidRow⟩,
    x_me_kr_InvalidRow_0,
    x_me_kr_InvalidRow_1,
    x_me_kr_InvalidRow_2,
    x_me_kr_InvalidRow_3,
    x_me_kr_InvalidRow_4,
    x_me_kr_InvalidRow_5,
    x_me_kr_InvalidRow_6,
    x_me_kr_InvalidRow_7,
    x_me_kr_InvalidRow_8,
    x_me_kr_InvalidRow_9,
    x_me_kr_InvalidRow_10,
    x_me_kr_InvalidRow_11,
    x_me_kr_InvalidRow_12,
    x_me_kr_InvalidRow_13,
    x_me_kr_InvalidRow_14,
    x_me_kr_InvalidRow_15,
    x_me_kr_InvalidRow_16,
    x_me_kr_InvalidRow_17,
    x_me_kr_InvalidRow_18,
    x_me_kr_InvalidRow_19,
    x_me_kr_InvalidRow_20,
    x_me_kr_InvalidRow_21,
    x_me_kr_InvalidRow_22,
    x_me_kr_InvalidRow_23,
    ⟨x_ga_InvalidViews, x_gg_InvalidViews, x_xe_InvalidViews, x_xd_InvalidViews⟩,
    ⟨x_ga_InvalidViews, x_gg_InvalidViews, x_xe_InvalidViews, x_xd_InvalidViews, x_xa_InvalidViews, x_xn_InvalidViews, x_xq_InvalidViews, x_xm_InvalidViews⟩,
    x_me_kr_InvalidViews_0,
    x_me_kr_InvalidViews_1,
    x_me_kr_InvalidViews_2,
    x_me_kr_InvalidViews_3,
    x_me_kr_InvalidViews_4,
    x_me_kr_InvalidViews_5,
    x_me_kr_InvalidViews_6,
    x_me_kr_InvalidViews_7,
    x_me_kr_InvalidViews_8,
    x_me_kr_InvalidViews_9,
    x_me_kr_InvalidViews_10,
    x_me_kr_InvalidViews_11,
    x_me_kr_InvalidViews_12,
    x_me_kr_InvalidViews_13,
    x_me_kr_InvalidViews_14,
    x_me_kr_InvalidViews_15,
    x_me_kr_InvalidViews_16,
    x_me_kr_InvalidViews_17,
    x_me_kr_InvalidViews_18,
    x_me_kr_InvalidViews_19,
    x_me_kr_InvalidViews_20,
    x_me_kr_InvalidViews_21,
    x_me_kr_InvalidViews_22,
    x_me_kr_InvalidViews_23,
    ⟨x_ga_InvalidTexts, x_gg_InvalidTexts, x_xe_InvalidTexts, x_xd_InvalidTexts⟩,
    ⟨x_ga_InvalidTexts, x_gg_InvalidTexts, x_xe_InvalidTexts, x_xd_InvalidTexts, x_xa_InvalidTexts, x_xn_InvalidTexts, x_xq_InvalidTexts, x_xm_InvalidTexts⟩,
    x_me_kr_InvalidTexts_0,
    x_me_kr_InvalidTexts_1,
    x_me_kr_InvalidTexts_2,
    x_me_kr_InvalidTexts_3,
    x_me_kr_InvalidTexts_4,
    x_me_kr_InvalidTexts_5,
    x_me_kr_InvalidTexts_6,
    x_me_kr_InvalidTexts_7,
    x_me_kr_InvalidTexts_8,
    x_me_kr_InvalidTexts_9,
    x_me_kr_InvalidTexts_10,
    x_me_kr_InvalidTexts_11,
    x_me_kr_InvalidTexts_12,
    x_me_kr_InvalidTexts_13,
    x_me_kr_InvalidTexts_14,
    x_me_kr_InvalidTexts_15,
    x_me_kr_InvalidTexts_16,
    x_me_kr_InvalidTexts_17,
    x_me_kr_InvalidTexts_18,
    x_me_kr_InvalidTexts_19,
    x_me_kr_InvalidTexts_20,
    x_me_kr_InvalidTexts_21,
    x_me_kr_InvalidTexts_22,
    x_me_kr_InvalidTexts_23,
    ⟨x_ga_InvalidDeeds, x_gg_InvalidDeeds, x_xe_InvalidDeeds, x_xd_InvalidDeeds⟩,
    ⟨x_ga_InvalidDeeds, x_gg_InvalidDeeds, x_xe_InvalidDeeds, x_xd_InvalidDeeds, x_xa_InvalidDeeds, x_xn_InvalidDeeds, x_xq_InvalidDeeds, x_xm_InvalidDeeds⟩,
    x_me_kr_InvalidDeeds_0,
    x_me_kr_InvalidDeeds_1,
    x_me_kr_InvalidDeeds_2,
    x_me_kr_InvalidDeeds_3,
    x_me_kr_InvalidDeeds_4,
    x_me_kr_InvalidDeeds_5,
    x_me_kr_InvalidDeeds_6,
    x_me_kr_InvalidDeeds_7,
    x_me_kr_InvalidDeeds_8,
    x_me_kr_InvalidDeeds_9,
    x_me_kr_InvalidDeeds_10,
    x_me_kr_InvalidDeeds_11,
    x_me_kr_InvalidDeeds_12,
    x_me_kr_InvalidDeeds_13,
    x_me_kr_InvalidDeeds_14,
    x_me_kr_InvalidDeeds_15,
    x_me_kr_InvalidDeeds_16,
    x_me_kr_InvalidDeeds_17,
    x_me_kr_InvalidDeeds_18,
    x_me_kr_InvalidDeeds_19,
    x_me_kr_InvalidDeeds_20,
    x_me_kr_InvalidDeeds_21,
    x_me_kr_InvalidDeeds_22,
    x_me_kr_InvalidDeeds_23,
    ⟨x_ga_NothingToUndo, x_gg_NothingToUndo, x_xe_NothingToUndo, x_xd_NothingToUndo⟩,
    ⟨x_ga_NothingToUndo, x_gg_NothingToUndo, x_xe_NothingToUndo, x_xd_NothingToUndo, x_xa_NothingToUndo, x_xn_NothingToUndo, x_xq_NothingToUndo, x_xm_NothingToUndo⟩,
    x_me_kr_NothingToUndo_0,
    x_me_kr_NothingToUndo_1,
    x_me_kr_NothingToUndo_2,
    x_me_kr_NothingToUndo_3,
    x_me_kr_NothingToUndo_4,
    x_me_kr_NothingToUndo_5,
    x_me_kr_NothingToUndo_6,
    x_me_kr_NothingToUndo_7,
    x_me_kr_NothingToUndo_8,
    x_me_kr_NothingToUndo_9,
    x_me_kr_NothingToUndo_10,
    x_me_kr_NothingToUndo_11,
    x_me_kr_NothingToUndo_12,
    x_me_kr_NothingToUndo_13,
    x_me_kr_NothingToUndo_14,
    x_me_kr_NothingToUndo_15,
    x_me_kr_NothingToUndo_16,
    x_me_kr_NothingToUndo_17,
    x_me_kr_NothingToUndo_18,
    x_me_kr_NothingToUndo_19,
    x_me_kr_NothingToUndo_20,
    x_me_kr_NothingToUndo_21,
    x_me_kr_NothingToUndo_22,
    x_me_kr_NothingToUndo_23,
    ⟨x_ga_Busy, x_gg_Busy, x_xe_Busy, x_xd_Busy⟩,
    ⟨x_ga_Busy, x_gg_Busy, x_xe_Busy, x_xd_Busy, x_xa_Busy, x_xn_Busy, x_xq_Busy, x_xm_Busy⟩,
    x_me_kr_Busy_0,
    x_me_kr_Busy_1,
    x_me_kr_Busy_2,
    x_me_kr_Busy_3,
    x_me_kr_Busy_4,
    x_me_kr_Busy_5,
    x_me_kr_Busy_6,
    x_me_kr_Busy_7,
    x_me_kr_Busy_8,
    x_me_kr_Busy_9,
    x_me_kr_Busy_10,
    x_me_kr_Busy_11,
    x_me_kr_Busy_12,
    x_me_kr_Busy_13,
    x_me_kr_Busy_14,
    x_me_kr_Busy_15,
    x_me_kr_Busy_16,
    x_me_kr_Busy_17,
    x_me_kr_Busy_18,
    x_me_kr_Busy_19,
    x_me_kr_Busy_20,
    x_me_kr_Busy_21,
    x_me_kr_Busy_22,
    x_me_kr_Busy_23,
    ⟨x_ga_UnknownName, x_gg_UnknownName, x_xe_UnknownName, x_xd_UnknownName⟩,
    ⟨x_ga_UnknownName, x_gg_UnknownName, x_xe_UnknownName, x_xd_UnknownName, x_xa_UnknownName, x_xn_UnknownName, x_xq_UnknownName, x_xm_UnknownName⟩,
    x_me_kr_UnknownName_0,
    x_me_kr_UnknownName_1,
    x_me_kr_UnknownName_2,
    x_me_kr_UnknownName_3,
    x_me_kr_UnknownName_4,
    x_me_kr_UnknownName_5,
    x_me_kr_UnknownName_6,
    x_me_kr_UnknownName_7,
    x_me_kr_UnknownName_8,
    x_me_kr_UnknownName_9,
    x_me_kr_UnknownName_10,
    x_me_kr_UnknownName_11,
    x_me_kr_UnknownName_12,
    x_me_kr_UnknownName_13,
    x_me_kr_UnknownName_14,
    x_me_kr_UnknownName_15,
    x_me_kr_UnknownName_16,
    x_me_kr_UnknownName_17,
    x_me_kr_UnknownName_18,
    x_me_kr_UnknownName_19,
    x_me_kr_UnknownName_20,
    x_me_kr_UnknownName_21,
    x_me_kr_UnknownName_22,
    x_me_kr_UnknownName_23,
    ⟨x_ga_TooMany, x_gg_TooMany, x_xe_TooMany, x_xd_TooMany⟩,
    ⟨x_ga_TooMany, x_gg_TooMany, x_xe_TooMany, x_xd_TooMany, x_xa_TooMany, x_xn_TooMany, x_xq_TooMany, x_xm_TooMany⟩,
    x_me_kr_TooMany_0,
    x_me_kr_TooMany_1,
    x_me_kr_TooMany_2,
    x_me_kr_TooMany_3,
    x_me_kr_TooMany_4,
    x_me_kr_TooMany_5,
    x_me_kr_TooMany_6,
    x_me_kr_TooMany_7,
    x_me_kr_TooMany_8,
    x_me_kr_TooMany_9,
    x_me_kr_TooMany_10,
    x_me_kr_TooMany_11,
    x_me_kr_TooMany_12,
    x_me_kr_TooMany_13,
    x_me_kr_TooMany_14,
    x_me_kr_TooMany_15,
    x_me_kr_TooMany_16,
    x_me_kr_TooMany_17,
    x_me_kr_TooMany_18,
    x_me_kr_TooMany_19,
    x_me_kr_TooMany_20,
    x_me_kr_TooMany_21,
    x_me_kr_TooMany_22,
    x_me_kr_TooMany_23,
    f__law_pot,
    _,
    (fun_mk (st := s__law_pot) x_l__law_pot x_c__law_pot x_k__law_pot),
    (fun_mk (st := s__law_pot) x_l__law_pot x_c__law_pot x_k__law_pot).binds (ps := p__law_pot) fun _ _ _ _ _ _ us hl => match us, hl with | [_, _], _ => rfl,
    PySem.W.mg_of X G x_a__law_pot,
    f__law_ladle,
    _,
    (fun_mk (st := s__law_ladle) x_l__law_ladle x_c__law_ladle x_k__law_ladle),
    (fun_mk (st := s__law_ladle) x_l__law_ladle x_c__law_ladle x_k__law_ladle).binds (ps := p__law_ladle) fun _ _ _ _ _ _ us hl => match us, hl with | [_, _], _ => rfl,
    PySem.W.mg_of X G x_a__law_ladle,
    f__law_one_of,
    _,
    (fun_mk (st := s__law_one_of) x_l__law_one_of x_c__law_one_of x_k__law_one_of),
    (fun_mk (st := s__law_one_of) x_l__law_one_of x_c__law_one_of x_k__law_one_of).binds (ps := p__law_one_of) fun _ _ _ _ _ _ us hl => match us, hl with | [_, _], _ => rfl,
    PySem.W.mg_of X G x_a__law_one_of,
    f__law_value_errors,
    _,
    (fun_mk (st := s__law_value_errors) x_l__law_value_errors x_c__law_value_errors x_k__law_value_errors),
    (fun_mk (st := s__law_value_errors) x_l__law_value_errors x_c__law_value_errors x_k__law_value_errors).binds (ps := p__law_value_errors) fun _ _ _ _ _ _ us hl => match us, hl with | [_], _ => rfl,
    PySem.W.mg_of X G x_a__law_value_errors,
    f__law_index_errors,
    _,
    (fun_mk (st := s__law_index_errors) x_l__law_index_errors x_c__law_index_errors x_k__law_index_errors),
    (fun_mk (st := s__law_index_errors) x_l__law_index_errors x_c__law_index_errors x_k__law_index_errors).binds (ps := p__law_index_errors) fun _ _ _ _ _ _ us hl => match us, hl with | [_], _ => rfl,
    PySem.W.mg_of X G x_a__law_index_errors,
    f__law_instances,
    _,
    (fun_mk (st := s__law_instances) x_l__law_instances x_c__law_instances x_k__law_instances),
    (fun_mk (st := s__law_instances) x_l__law_instances x_c__law_instances x_k__law_instances).binds (ps := p__law_instances) fun _ _ _ _ _ _ us hl => match us, hl with | [_], _ => rfl,
    PySem.W.mg_of X G x_a__law_instances,
    f__law_bases,
    _,
    (fun_mk (st := s__law_bases) x_l__law_bases x_c__law_bases x_k__law_bases),
    (fun_mk (st := s__law_bases) x_l__law_bases x_c__law_bases x_k__law_bases).binds (ps := p__law_bases) fun _ _ _ _ _ _ us hl => match us, hl with | [_], _ => rfl,
    PySem.W.mg_of X G x_a__law_bases,
    f__law_right,
    _,
    (fun_mk (st := s__law_right) x_l__law_right x_c__law_right x_k__law_right),
    (fun_mk (st := s__law_right) x_l__law_right x_c__law_right x_k__law_right).binds (ps := p__law_right) fun _ _ _ _ _ _ us hl => match us, hl with | [_], _ => rfl,
    PySem.W.mg_of X G x_a__law_right,
    f_law,
    _,
    (fun_mk (st := s_law) x_l_law x_c_law x_k_law),
    (fun_mk (st := s_law) x_l_law x_c_law x_k_law).binds (ps := p_law) fun _ _ _ _ _ _ us hl => match us, hl with | [_], _ => rfl,
    PySem.W.mg_of X G x_a_law⟩, rfl⟩
end G
local macro_rules | `(tactic| walk_at "go") => `(tactic| simp (config := { failIfUnchanged := false, maxSteps := 2000000 }) only [U.e_var, U.e_c, U.e_op, U.e_un, U.e_nil, U.e_cons, U.e_cb, U.e_call, U.e_tup, U.e_lst, U.e_if, U.e_andV, U.e_orV, U.e_notV, U.e_chain, U.e_test, U.e_B, U.e_and, U.e_or, U.e_not, U.e_asg, U.e_name, U.e_seq, U.e_next, U.e_ret, U.e_ifS, U.e_drop, U.e_part, U.e_noPart, U.e_sl, U.e_I0, U.e_I, U.e_exbl, U.e_exint, U.e_exstr, U.e_exsome, U.e_pair, U.e_expair, U.e_m1, U.e_m0, U.e_bm, U.e_bm0, U.e_fld, U.e_sfld, U.e_then, U.e_star, U.e_yes, U.e_gcons, U.e_gnil, U.e_gtup, U.e_gsub, U.e_make, U.e_makeK, U.e_callN, U.e_meth, U.e_kTup, U.e_lcL, U.e_lcT, U.e_lcS, U.e_lcR, U.e_lcR2, U.e_forL, U.e_forT, U.e_forR, U.e_forR2, U.e_forE, U.e_lstRg, L2.wipe, eq_self,
  U.rAddU, U.rEqU, U.rNeU, U.rLtU, U.rInU, U.rNinU, U.rIxU, U.rSlU, U.rLenU, U.rInt1, U.rI1, U.rI2, L2.rU, U.rListU, L2.scal,
  L2.start, List.map_cons, List.map_nil, List.length_cons, List.length_nil, List.cons_append, List.nil_append, List.append_nil, List.getElem?_cons_zero, List.getElem?_cons_succ, List.set_cons_zero, List.set_cons_succ, Nat.reduceAdd, Nat.reduceSub, List.reduceReplicate, Nat.zero_add,
  if_true, if_false, Bool.false_eq_true, decide_eq_true_eq, Bool.not_eq_true', decide_eq_false_iff_not, Bool.not_true, Bool.not_false, L2.V.int.injEq, L2.V.str.injEq, L2.V.bl.injEq, L2.V.ref.injEq, exists_eq_left', exists_and_left, true_and, and_true, not_true_eq_false, not_false_eq_true, reduceCtorEq])
local macro_rules | `(tactic| walk_at "lz") => `(tactic| simp (config := { failIfUnchanged := false, maxSteps := 2000000 }) only [U.e_var, U.e_c, U.e_op, U.e_un, U.e_nil, U.e_cons, U.e_cb, U.e_call, U.e_tup, U.e_lst, U.e_if, U.e_andV, U.e_orV, U.e_notV, U.e_chain, U.e_test, U.e_B, U.e_and, U.e_or, U.e_not, U.e_asg, U.e_name, U.e_seq, U.e_next, U.e_ret, U.e_ifS, U.e_drop, U.e_part, U.e_noPart, U.e_sl, U.e_I0, U.e_I, U.e_exbl, U.e_exint, U.e_exstr, U.e_exsome, U.e_pair, U.e_expair, U.e_m1, U.e_m0, U.e_bm, U.e_bm0, U.e_fld, U.e_sfld, U.e_then, U.e_star, U.e_yes, U.e_gcons, U.e_gnil, U.e_gtup, U.e_gsub, U.e_make, U.e_makeK, U.e_callN, U.e_meth, U.e_kTup, U.e_lcL, U.e_lcT, U.e_lcS, U.e_lcR, U.e_lcR2, U.e_forL, U.e_forT, U.e_forR, U.e_forR2, U.e_forE, U.e_lstRg, L2.wipe, eq_self,
  U.rEqU, U.rNeU, U.rLtU, U.rInU, U.rNinU, U.rIxU, U.rSlU, U.rLenU, U.rInt1, U.rI1, U.rI2, L2.rU, U.rListU, L2.scal,
  L2.start, List.map_cons, List.map_nil, List.length_cons, List.length_nil, List.cons_append, List.nil_append, List.append_nil, List.getElem?_cons_zero, List.getElem?_cons_succ, List.set_cons_zero, List.set_cons_succ, Nat.reduceAdd, Nat.reduceSub, List.reduceReplicate, Nat.zero_add,
  if_true, if_false, Bool.false_eq_true, decide_eq_true_eq, Bool.not_eq_true', decide_eq_false_iff_not, Bool.not_true, Bool.not_false, L2.V.int.injEq, L2.V.str.injEq, L2.V.bl.injEq, L2.V.ref.injEq, exists_eq_left', exists_and_left, true_and, and_true, not_true_eq_false, not_false_eq_true, reduceCtorEq])
local macro_rules | `(tactic| walk_at "lx") => `(tactic| simp (config := { failIfUnchanged := false, maxSteps := 2000000 }) only [U.e_var, U.e_c, U.e_op, U.e_un, U.e_nil, U.e_cons, U.e_cb, U.e_call, U.e_tup, U.e_lst, U.e_if, U.e_andV, U.e_orV, U.e_notV, U.e_chain, U.e_test, U.e_B, U.e_and, U.e_or, U.e_not, U.e_asg, U.e_name, U.e_seq, U.e_next, U.e_ret, U.e_ifS, U.e_drop, U.e_part, U.e_noPart, U.e_sl, U.e_I0, U.e_I, U.e_exbl, U.e_exint, U.e_exstr, U.e_exsome, U.e_pair, U.e_expair, U.e_m1, U.e_m0, U.e_bm, U.e_bm0, U.e_fld, U.e_sfld, U.e_then, U.e_star, U.e_yes, U.e_gcons, U.e_gnil, U.e_gtup, U.e_gsub, U.e_make, U.e_makeK, U.e_callN, U.e_meth, U.e_kTup, U.e_lcL, U.e_lcT, U.e_lcS, U.e_lcR, U.e_lcR2, U.e_forL, U.e_forT, U.e_forR, U.e_forR2, U.e_forE, U.e_lstRg, L2.wipe, eq_self,
  U.rLtU, U.rInU, U.rNinU, U.rSlU, U.rLenU, U.rInt1, U.rI1, U.rI2, L2.rU, U.rListU, L2.scal,
  L2.start, List.map_cons, List.map_nil, List.length_cons, List.length_nil, List.cons_append, List.nil_append, List.append_nil, List.getElem?_cons_zero, List.getElem?_cons_succ, List.set_cons_zero, List.set_cons_succ, Nat.reduceAdd, Nat.reduceSub, List.reduceReplicate, Nat.zero_add,
  if_true, if_false, Bool.false_eq_true, decide_eq_true_eq, Bool.not_eq_true', decide_eq_false_iff_not, Bool.not_true, Bool.not_false, L2.V.int.injEq, L2.V.str.injEq, L2.V.bl.injEq, L2.V.ref.injEq, exists_eq_left', exists_and_left, true_and, and_true, not_true_eq_false, not_false_eq_true, reduceCtorEq])
local macro_rules | `(tactic| walk_at "ly") => `(tactic| simp (config := { failIfUnchanged := false, maxSteps := 2000000 }) only [U.e_var, U.e_c, U.e_op, U.e_un, U.e_nil, U.e_cons, U.e_cb, U.e_call, U.e_tup, U.e_lst, U.e_if, U.e_andV, U.e_orV, U.e_notV, U.e_chain, U.e_test, U.e_B, U.e_and, U.e_or, U.e_not, U.e_asg, U.e_name, U.e_seq, U.e_next, U.e_ret, U.e_ifS, U.e_drop, U.e_part, U.e_noPart, U.e_sl, U.e_I0, U.e_I, U.e_exbl, U.e_exint, U.e_exstr, U.e_exsome, U.e_pair, U.e_expair, U.e_m1, U.e_m0, U.e_bm, U.e_bm0, U.e_fld, U.e_sfld, U.e_then, U.e_star, U.e_yes, U.e_gcons, U.e_gnil, U.e_gtup, U.e_gsub, U.e_make, U.e_makeK, U.e_callN, U.e_meth, U.e_kTup, U.e_lcL, U.e_lcT, U.e_lcS, U.e_lcR, U.e_lcR2, U.e_forL, U.e_forT, U.e_forR, U.e_forR2, U.e_forE, U.e_lstRg, L2.wipe, eq_self,
  U.rSlU, U.rInt1, U.rI1, U.rI2, L2.rU, U.rListU, L2.scal,
  L2.start, List.map_cons, List.map_nil, List.length_cons, List.length_nil, List.cons_append, List.nil_append, List.append_nil, List.getElem?_cons_zero, List.getElem?_cons_succ, List.set_cons_zero, List.set_cons_succ, Nat.reduceAdd, Nat.reduceSub, List.reduceReplicate, Nat.zero_add,
  if_true, if_false, Bool.false_eq_true, decide_eq_true_eq, Bool.not_eq_true', decide_eq_false_iff_not, Bool.not_true, Bool.not_false, L2.V.int.injEq, L2.V.str.injEq, L2.V.bl.injEq, L2.V.ref.injEq, exists_eq_left', exists_and_left, true_and, and_true, not_true_eq_false, not_false_eq_true, reduceCtorEq])
local macro_rules | `(tactic| walk_at "lw") => `(tactic| simp (config := { failIfUnchanged := false, maxSteps := 2000000 }) only [U.e_var, U.e_c, U.e_op, U.e_un, U.e_nil, U.e_cons, U.e_cb, U.e_call, U.e_tup, U.e_lst, U.e_if, U.e_andV, U.e_orV, U.e_notV, U.e_chain, U.e_test, U.e_B, U.e_and, U.e_or, U.e_not, U.e_asg, U.e_name, U.e_seq, U.e_next, U.e_ret, U.e_ifS, U.e_drop, U.e_part, U.e_noPart, U.e_sl, U.e_I0, U.e_I, U.e_exbl, U.e_exint, U.e_exstr, U.e_exsome, U.e_pair, U.e_expair, U.e_m1, U.e_m0, U.e_bm, U.e_bm0, U.e_fld, U.e_sfld, U.e_then, U.e_star, U.e_yes, U.e_gcons, U.e_gnil, U.e_gtup, U.e_gsub, U.e_make, U.e_makeK, U.e_callN, U.e_meth, U.e_lcL, U.e_lcT, U.e_lcS, U.e_lcR, U.e_lcR2, U.e_forL, U.e_forT, U.e_forR, U.e_forR2, U.e_forE, U.e_lstRg, L2.wipe, eq_self,
  U.rInt1, U.rI1, U.rI2, L2.rU, U.rListU, L2.scal,
  L2.start, List.map_cons, List.map_nil, List.length_cons, List.length_nil, List.cons_append, List.nil_append, List.append_nil, List.getElem?_cons_zero, List.getElem?_cons_succ, List.set_cons_zero, List.set_cons_succ, Nat.reduceAdd, Nat.reduceSub, List.reduceReplicate, Nat.zero_add,
  if_true, if_false, Bool.false_eq_true, decide_eq_true_eq, Bool.not_eq_true', decide_eq_false_iff_not, Bool.not_true, Bool.not_false, L2.V.int.injEq, L2.V.str.injEq, L2.V.bl.injEq, L2.V.ref.injEq, exists_eq_left', exists_and_left, true_and, and_true, not_true_eq_false, not_false_eq_true, reduceCtorEq])
local macro_rules | `(tactic| walk_at "vmem") => `(tactic| (first | assumption | exact V.mset_same | exact V.mset_get2 (by assumption) | exact (V.mset_ne (by assumption)).trans (by assumption) | exact (V.mset_ne (by assumption)).trans V.mset_same | exact (V.mset_ne (by assumption)).trans ((V.mset_ne (by assumption)).trans (by assumption))))
local macro_rules | `(tactic| walk_at "vset") => `(tactic| (first | exact V.mset_set | exact V.mset_set2 (by assumption) | exact rfl))
local macro_rules | `(tactic| walk_at "dw") => `(tactic| (repeat (first | (with_reducible (first | refine V.x_seq ?_ | refine V.x_op ?_ | refine V.x_cons ?_ | refine V.x_nil ?_ | refine V.x_c ?_ | refine V.x_tup ?_ | refine V.x_lst ?_ | refine V.x_lstM ?_ | refine V.x_if ?_ | refine V.x_B ?_ | refine V.x_and ?_ | refine V.x_or ?_ | refine V.x_not ?_ | refine V.x_andV ?_ | refine V.x_orV ?_ | refine V.x_notV ?_ | refine V.x_chain ?_ | refine V.x_cb ?_ | refine V.x_then ?_ | refine V.x_star ?_ | refine V.x_part ?_ | refine V.x_noPart ?_ | refine V.x_sl ?_ | refine V.x_fld ?_ | refine V.x_sfld ?_ | refine V.x_neg ?_ | refine V.x_join ?_ | refine V.x_append ?_ | refine V.x_lstRg ?_ | refine V.x_rg1 ?_ | refine V.x_rg2 ?_ | refine V.x_revL ?_ | refine V.x_joinF ?_ | refine V.x_call ?_ | refine V.x_callN ?_ | refine V.x_meth ?_ | refine V.x_makeK ?_ | refine V.x_lc ?_ | refine V.x_yes ?_ | refine V.x_next ?_ | refine V.x_break ?_ | refine V.x_cont ?_ | refine V.x_drop ?_ | refine V.x_ret ?_ | refine V.x_retN ?_ | refine V.x_ifS ?_ | refine V.x_asg ?_ | refine V.x_gN ?_ | refine V.x_par ?_ | refine V.x_for ?_ | refine V.x_gs1 ?_ | refine V.x_gs0 ?_ | refine V.x_iL ?_ | refine V.x_iT ?_ | refine V.x_iS ?_ | refine V.x_iR1 ?_ | refine V.x_iR2 ?_ | refine V.x_diL ?_ | refine V.x_bl ?_ | refine V.x_int ?_ | refine V.x_int2 ?_ | refine V.x_str0 ?_ | refine V.x_two ?_ | refine V.x_tr ?_ | refine V.x_addI ?_ | refine V.x_I1 ?_ | refine V.x_ltI ?_ | refine V.x_eqI ?_ | refine V.x_eqS ?_ | refine V.x_neI ?_ | refine V.x_neS ?_ | refine V.x_isN ?_ | refine V.x_notN ?_ | refine V.x_isB ?_ | refine V.x_notB ?_ | refine V.x_lenT ?_ | refine V.x_lenL ?_ | refine V.x_listL ?_ | refine V.x_listT ?_ | refine V.x_tupL ?_ | refine V.x_tupT ?_ | refine V.x_int1 ?_ | refine V.x_int21 ?_ | refine V.x_slT ?_ | refine V.x_slL ?_ | refine V.x_all ?_ | refine V.x_tfE ?_ | refine V.x_tfF ?_ | refine V.x_tupE ?_ | refine V.x_strE ?_ | refine V.x_r1 ?_ | refine V.x_r2 ?_ | refine V.x_true ?_ | refine V.x_false ?_ | refine V.x_nfalse ?_ | refine V.x_ntrue ?_ | refine V.x_iET ?_ | refine V.x_iE ?_ | refine V.x_iZ ?_ | refine V.x_tf1 ?_ | refine V.x_tf1F ?_ | refine V.x_tup1 ?_ | refine V.x_lst1 ?_ | refine V.x_lst2 ?_ | refine V.x_starT ?_ | refine V.x_starF ?_ | refine V.x_starL ?_ | refine V.x_eqIN ?_ | refine V.x_eqNI ?_ | refine V.x_eqSN ?_ | refine V.x_eqNS ?_ | refine V.x_eqNN ?_ | refine V.x_eqBB ?_ | refine V.x_neIN ?_ | refine V.x_neNI ?_ | refine V.x_neSN ?_ | refine V.x_neNS ?_ | refine V.x_neNN ?_ | refine V.x_neBB ?_ | refine V.x_iZT ?_ | refine V.x_tup2 ?_ | refine V.x_par3 ?_ | refine V.x_three ?_ | refine V.x_tupF ?_ | refine V.x_tfL ?_ | refine V.x_lstRgM ?_ | refine V.x_callX ?_ | refine V.x_callNX ?_ | refine V.x_raiseX ?_ | refine V.x_dnewE ?_)) | ((with_reducible refine' V.x_var ?_ ?_); rotate_left; exact rfl) | ((with_reducible refine' V.x_aug ?_ ?_); rotate_left; exact rfl) | ((with_reducible refine' V.x_lamE ?_ ?_); assumption) | ((with_reducible refine' V.x_gT ?_ ?_); exact rfl) | ((with_reducible refine' And.intro (a := _ ≤ PySem.sizeLine) ?_ ?_); exact Nat.le_of_ble_eq_true rfl) | ((with_reducible refine' V.x_ixT ?_ ?_); rotate_left; exact rfl) | ((with_reducible refine' V.x_ixL ?_ ?_); rotate_left; exact rfl) | ((with_reducible refine' V.x_iteT ?_ ?_); (first | omega | (simp only [List.length_cons, List.length_nil, List.length_map, List.length_append]; omega))) | ((with_reducible refine' V.x_iteF ?_ ?_); (first | omega | (simp only [List.length_cons, List.length_nil, List.length_map, List.length_append]; omega))) | ((with_reducible refine' V.x_itenT ?_ ?_); (first | omega | (simp only [List.length_cons, List.length_nil, List.length_map, List.length_append]; omega))) | ((with_reducible refine' V.x_itenF ?_ ?_); (first | omega | (simp only [List.length_cons, List.length_nil, List.length_map, List.length_append]; omega))) | ((with_reducible refine' V.x_sfldQ ?_ ?_ ?_ ?_); assumption; assumption; exact Nat.le_of_ble_eq_true rfl) | ((with_reducible refine' V.x_sfldP ?_ ?_ ?_ ?_ ?_); rotate_left 2; assumption; assumption; assumption; exact Nat.le_of_ble_eq_true rfl) | ((with_reducible refine' V.x_fldI 0 ?_ ?_ ?_ ?_ ?_ ?_); rotate_left; exact rfl; exact rfl; assumption; assumption; decide +kernel) | ((with_reducible refine' V.x_fldI 1 ?_ ?_ ?_ ?_ ?_ ?_); rotate_left; exact rfl; exact rfl; assumption; assumption; decide +kernel) | ((with_reducible refine' V.x_fldI 2 ?_ ?_ ?_ ?_ ?_ ?_); rotate_left; exact rfl; exact rfl; assumption; assumption; decide +kernel) | ((with_reducible refine' V.x_fldI 3 ?_ ?_ ?_ ?_ ?_ ?_); rotate_left; exact rfl; exact rfl; assumption; assumption; decide +kernel) | ((with_reducible refine' V.x_fldI 4 ?_ ?_ ?_ ?_ ?_ ?_); rotate_left; exact rfl; exact rfl; assumption; assumption; decide +kernel) | ((with_reducible refine' V.x_fldI 5 ?_ ?_ ?_ ?_ ?_ ?_); rotate_left; exact rfl; exact rfl; assumption; assumption; decide +kernel) | ((with_reducible refine' V.x_fldI 6 ?_ ?_ ?_ ?_ ?_ ?_); rotate_left; exact rfl; exact rfl; assumption; assumption; decide +kernel) | ((with_reducible refine' V.x_fldQ 0 ?_ ?_ ?_ ?_ ?_ ?_ ?_); rotate_left 3; assumption; exact rfl; exact rfl; assumption; assumption; (first | decide +kernel | (simp only [List.map_cons, List.map_nil]; decide +kernel))) | ((with_reducible refine' V.x_fldQ 1 ?_ ?_ ?_ ?_ ?_ ?_ ?_); rotate_left 3; assumption; exact rfl; exact rfl; assumption; assumption; (first | decide +kernel | (simp only [List.map_cons, List.map_nil]; decide +kernel))) | ((with_reducible refine' V.x_fldQ 2 ?_ ?_ ?_ ?_ ?_ ?_ ?_); rotate_left 3; assumption; exact rfl; exact rfl; assumption; assumption; (first | decide +kernel | (simp only [List.map_cons, List.map_nil]; decide +kernel))) | ((with_reducible refine' V.x_fldQ 3 ?_ ?_ ?_ ?_ ?_ ?_ ?_); rotate_left 3; assumption; exact rfl; exact rfl; assumption; assumption; (first | decide +kernel | (simp only [List.map_cons, List.map_nil]; decide +kernel))) | ((with_reducible refine' V.x_fldQ 4 ?_ ?_ ?_ ?_ ?_ ?_ ?_); rotate_left 3; assumption; exact rfl; exact rfl; assumption; assumption; (first | decide +kernel | (simp only [List.map_cons, List.map_nil]; decide +kernel))) | ((with_reducible refine' V.x_fldQ 5 ?_ ?_ ?_ ?_ ?_ ?_ ?_); rotate_left 3; assumption; exact rfl; exact rfl; assumption; assumption; (first | decide +kernel | (simp only [List.map_cons, List.map_nil]; decide +kernel))) | ((with_reducible refine' V.x_fldQ 6 ?_ ?_ ?_ ?_ ?_ ?_ ?_); rotate_left 3; assumption; exact rfl; exact rfl; assumption; assumption; (first | decide +kernel | (simp only [List.map_cons, List.map_nil]; decide +kernel))))))
local macro_rules | `(tactic| walk_at "dy") => `(tactic| (repeat (first | (with_reducible (first | refine V.x_seq ?_ | refine V.x_op ?_ | refine V.x_cons ?_ | refine V.x_nil ?_ | refine V.x_c ?_ | refine V.x_tup ?_ | refine V.x_lst ?_ | refine V.x_lstM ?_ | refine V.x_if ?_ | refine V.x_B ?_ | refine V.x_and ?_ | refine V.x_or ?_ | refine V.x_not ?_ | refine V.x_andV ?_ | refine V.x_orV ?_ | refine V.x_notV ?_ | refine V.x_chain ?_ | refine V.x_cb ?_ | refine V.x_then ?_ | refine V.x_star ?_ | refine V.x_part ?_ | refine V.x_noPart ?_ | refine V.x_sl ?_ | refine V.x_fld ?_ | refine V.x_sfld ?_ | refine V.x_neg ?_ | refine V.x_join ?_ | refine V.x_append ?_ | refine V.x_lstRg ?_ | refine V.x_rg1 ?_ | refine V.x_rg2 ?_ | refine V.x_revL ?_ | refine V.x_joinF ?_ | refine V.x_call ?_ | refine V.x_callN ?_ | refine V.x_meth ?_ | refine V.x_makeK ?_ | refine V.x_lc ?_ | refine V.x_yes ?_ | refine V.x_next ?_ | refine V.x_break ?_ | refine V.x_cont ?_ | refine V.x_drop ?_ | refine V.x_ret ?_ | refine V.x_retN ?_ | refine V.x_ifS ?_ | refine V.x_asg ?_ | refine V.x_for ?_ | refine V.x_gs1 ?_ | refine V.x_gs0 ?_ | refine V.x_iL ?_ | refine V.x_iT ?_ | refine V.x_iS ?_ | refine V.x_iR1 ?_ | refine V.x_iR2 ?_ | refine V.x_diL ?_ | refine V.x_bl ?_ | refine V.x_int ?_ | refine V.x_int2 ?_ | refine V.x_str0 ?_ | refine V.x_two ?_ | refine V.x_tr ?_ | refine V.x_addI ?_ | refine V.x_I1 ?_ | refine V.x_ltI ?_ | refine V.x_eqI ?_ | refine V.x_eqS ?_ | refine V.x_neI ?_ | refine V.x_neS ?_ | refine V.x_isN ?_ | refine V.x_notN ?_ | refine V.x_isB ?_ | refine V.x_notB ?_ | refine V.x_lenT ?_ | refine V.x_lenL ?_ | refine V.x_listL ?_ | refine V.x_listT ?_ | refine V.x_tupL ?_ | refine V.x_tupT ?_ | refine V.x_int1 ?_ | refine V.x_int21 ?_ | refine V.x_slT ?_ | refine V.x_slL ?_ | refine V.x_all ?_ | refine V.x_tfE ?_ | refine V.x_tfF ?_ | refine V.x_tupE ?_ | refine V.x_strE ?_ | refine V.x_r1 ?_ | refine V.x_r2 ?_ | refine V.x_true ?_ | refine V.x_false ?_ | refine V.x_nfalse ?_ | refine V.x_ntrue ?_ | refine V.x_iET ?_ | refine V.x_iE ?_ | refine V.x_iZ ?_ | refine V.x_tf1 ?_ | refine V.x_tf1F ?_ | refine V.x_tup1 ?_ | refine V.x_lst1 ?_ | refine V.x_lst2 ?_ | refine V.x_starT ?_ | refine V.x_starF ?_ | refine V.x_starL ?_ | refine V.x_eqIN ?_ | refine V.x_eqNI ?_ | refine V.x_eqSN ?_ | refine V.x_eqNS ?_ | refine V.x_eqNN ?_ | refine V.x_eqBB ?_ | refine V.x_neIN ?_ | refine V.x_neNI ?_ | refine V.x_neSN ?_ | refine V.x_neNS ?_ | refine V.x_neNN ?_ | refine V.x_neBB ?_ | refine V.x_iZT ?_ | refine V.x_tup2 ?_ | refine V.x_three ?_ | refine V.x_tupF ?_ | refine V.x_tfL ?_ | refine V.x_lstRgM ?_ | refine V.x_callX ?_ | refine V.x_callNX ?_ | refine V.x_raiseX ?_ | refine V.x_dnewE ?_)) | ((with_reducible refine V.x_gN ?_); (try dsimp only [List.set_cons_zero, List.set_cons_succ])) | ((with_reducible refine V.x_par ?_); (try dsimp only [List.set_cons_zero, List.set_cons_succ])) | ((with_reducible refine V.x_par3 ?_); (try dsimp only [List.set_cons_zero, List.set_cons_succ])) | ((with_reducible refine' V.x_var ?_ ?_); rotate_left; exact rfl) | ((with_reducible refine' V.x_aug ?_ ?_); rotate_left; exact rfl; (try dsimp only [List.set_cons_zero, List.set_cons_succ])) | ((with_reducible refine' V.x_lamE ?_ ?_); assumption) | ((with_reducible refine' V.x_gT ?_ ?_); exact rfl) | ((with_reducible refine' And.intro (a := _ ≤ PySem.sizeLine) ?_ ?_); exact Nat.le_of_ble_eq_true rfl) | ((with_reducible refine' V.x_ixT ?_ ?_); rotate_left; exact rfl) | ((with_reducible refine' V.x_ixL ?_ ?_); rotate_left; exact rfl) | ((with_reducible refine' V.x_iteT ?_ ?_); (first | omega | (simp only [List.length_cons, List.length_nil, List.length_map, List.length_append]; omega))) | ((with_reducible refine' V.x_iteF ?_ ?_); (first | omega | (simp only [List.length_cons, List.length_nil, List.length_map, List.length_append]; omega))) | ((with_reducible refine' V.x_itenT ?_ ?_); (first | omega | (simp only [List.length_cons, List.length_nil, List.length_map, List.length_append]; omega))) | ((with_reducible refine' V.x_itenF ?_ ?_); (first | omega | (simp only [List.length_cons, List.length_nil, List.length_map, List.length_append]; omega))) | ((with_reducible refine' V.x_sfldQ ?_ ?_ ?_ ?_); assumption; assumption; exact Nat.le_of_ble_eq_true rfl) | ((with_reducible refine' V.x_sfldP ?_ ?_ ?_ ?_ ?_); rotate_left 2; assumption; assumption; assumption; exact Nat.le_of_ble_eq_true rfl) | ((with_reducible refine' V.x_fldI 0 ?_ ?_ ?_ ?_ ?_ ?_); rotate_left; exact rfl; exact rfl; assumption; assumption; decide +kernel) | ((with_reducible refine' V.x_fldI 1 ?_ ?_ ?_ ?_ ?_ ?_); rotate_left; exact rfl; exact rfl; assumption; assumption; decide +kernel) | ((with_reducible refine' V.x_fldI 2 ?_ ?_ ?_ ?_ ?_ ?_); rotate_left; exact rfl; exact rfl; assumption; assumption; decide +kernel) | ((with_reducible refine' V.x_fldI 3 ?_ ?_ ?_ ?_ ?_ ?_); rotate_left; exact rfl; exact rfl; assumption; assumption; decide +kernel) | ((with_reducible refine' V.x_fldI 4 ?_ ?_ ?_ ?_ ?_ ?_); rotate_left; exact rfl; exact rfl; assumption; assumption; decide +kernel) | ((with_reducible refine' V.x_fldI 5 ?_ ?_ ?_ ?_ ?_ ?_); rotate_left; exact rfl; exact rfl; assumption; assumption; decide +kernel) | ((with_reducible refine' V.x_fldI 6 ?_ ?_ ?_ ?_ ?_ ?_); rotate_left; exact rfl; exact rfl; assumption; assumption; decide +kernel) | ((with_reducible refine' V.x_fldQ 0 ?_ ?_ ?_ ?_ ?_ ?_ ?_); rotate_left 3; assumption; exact rfl; exact rfl; assumption; assumption; (first | decide +kernel | (simp only [List.map_cons, List.map_nil]; decide +kernel))) | ((with_reducible refine' V.x_fldQ 1 ?_ ?_ ?_ ?_ ?_ ?_ ?_); rotate_left 3; assumption; exact rfl; exact rfl; assumption; assumption; (first | decide +kernel | (simp only [List.map_cons, List.map_nil]; decide +kernel))) | ((with_reducible refine' V.x_fldQ 2 ?_ ?_ ?_ ?_ ?_ ?_ ?_); rotate_left 3; assumption; exact rfl; exact rfl; assumption; assumption; (first | decide +kernel | (simp only [List.map_cons, List.map_nil]; decide +kernel))) | ((with_reducible refine' V.x_fldQ 3 ?_ ?_ ?_ ?_ ?_ ?_ ?_); rotate_left 3; assumption; exact rfl; exact rfl; assumption; assumption; (first | decide +kernel | (simp only [List.map_cons, List.map_nil]; decide +kernel))) | ((with_reducible refine' V.x_fldQ 4 ?_ ?_ ?_ ?_ ?_ ?_ ?_); rotate_left 3; assumption; exact rfl; exact rfl; assumption; assumption; (first | decide +kernel | (simp only [List.map_cons, List.map_nil]; decide +kernel))) | ((with_reducible refine' V.x_fldQ 5 ?_ ?_ ?_ ?_ ?_ ?_ ?_); rotate_left 3; assumption; exact rfl; exact rfl; assumption; assumption; (first | decide +kernel | (simp only [List.map_cons, List.map_nil]; decide +kernel))) | ((with_reducible refine' V.x_fldQ 6 ?_ ?_ ?_ ?_ ?_ ?_ ?_); rotate_left 3; assumption; exact rfl; exact rfl; assumption; assumption; (first | decide +kernel | (simp only [List.map_cons, List.map_nil]; decide +kernel))) | (with_reducible (first | refine V.x_opX ?_ | refine V.x_split ?_)) | ((with_reducible apply V.x_callLX); exact rfl; (with_reducible exact rfl)) | ((with_reducible apply V.x_callLN); exact rfl; (with_reducible exact rfl)) | ((with_reducible refine' V.x_orL ?_); (with_reducible apply V.x_callLX); exact rfl; (with_reducible exact rfl)) | ((with_reducible refine' V.x_orL ?_); (with_reducible apply V.x_callLN); exact rfl; (with_reducible exact rfl)) | (with_reducible refine' V.x_orR ?_) | ((with_reducible apply V.x_ap1); walk_at "vmem") | ((with_reducible apply V.x_ap2); walk_at "vmem"; (simp [V.sizeLineN]); (first | rw [V.mset_set] | rw [V.mset_set2 (by assumption)] | skip)))))
local macro_rules | `(tactic| walk_at "dx") => `(tactic| (repeat (first | (with_reducible (first | refine V.x_seq ?_ | refine V.x_op ?_ | refine V.x_cons ?_ | refine V.x_nil ?_ | refine V.x_c ?_ | refine V.x_tup ?_ | refine V.x_lst ?_ | refine V.x_lstM ?_ | refine V.x_if ?_ | refine V.x_B ?_ | refine V.x_and ?_ | refine V.x_or ?_ | refine V.x_not ?_ | refine V.x_andV ?_ | refine V.x_orV ?_ | refine V.x_notV ?_ | refine V.x_chain ?_ | refine V.x_cb ?_ | refine V.x_then ?_ | refine V.x_star ?_ | refine V.x_part ?_ | refine V.x_noPart ?_ | refine V.x_sl ?_ | refine V.x_fld ?_ | refine V.x_sfld ?_ | refine V.x_neg ?_ | refine V.x_join ?_ | refine V.x_append ?_ | refine V.x_lstRg ?_ | refine V.x_rg1 ?_ | refine V.x_rg2 ?_ | refine V.x_revL ?_ | refine V.x_joinF ?_ | refine V.x_call ?_ | refine V.x_callN ?_ | refine V.x_meth ?_ | refine V.x_makeK ?_ | refine V.x_lc ?_ | refine V.x_yes ?_ | refine V.x_next ?_ | refine V.x_break ?_ | refine V.x_cont ?_ | refine V.x_drop ?_ | refine V.x_ret ?_ | refine V.x_retN ?_ | refine V.x_ifS ?_ | refine V.x_asg ?_ | refine V.x_for ?_ | refine V.x_gs1 ?_ | refine V.x_gs0 ?_ | refine V.x_iL ?_ | refine V.x_iT ?_ | refine V.x_iS ?_ | refine V.x_iR1 ?_ | refine V.x_iR2 ?_ | refine V.x_diL ?_ | refine V.x_bl ?_ | refine V.x_int ?_ | refine V.x_int2 ?_ | refine V.x_str0 ?_ | refine V.x_two ?_ | refine V.x_tr ?_ | refine V.x_addI ?_ | refine V.x_I1 ?_ | refine V.x_ltI ?_ | refine V.x_eqI ?_ | refine V.x_eqS ?_ | refine V.x_neI ?_ | refine V.x_neS ?_ | refine V.x_isN ?_ | refine V.x_notN ?_ | refine V.x_isB ?_ | refine V.x_notB ?_ | refine V.x_lenT ?_ | refine V.x_lenL ?_ | refine V.x_listL ?_ | refine V.x_listT ?_ | refine V.x_tupL ?_ | refine V.x_tupT ?_ | refine V.x_int1 ?_ | refine V.x_int21 ?_ | refine V.x_slT ?_ | refine V.x_slL ?_ | refine V.x_all ?_ | refine V.x_tfE ?_ | refine V.x_tfF ?_ | refine V.x_tupE ?_ | refine V.x_strE ?_ | refine V.x_r1 ?_ | refine V.x_r2 ?_ | refine V.x_true ?_ | refine V.x_false ?_ | refine V.x_nfalse ?_ | refine V.x_ntrue ?_ | refine V.x_iET ?_ | refine V.x_iE ?_ | refine V.x_iZ ?_ | refine V.x_tf1 ?_ | refine V.x_tf1F ?_ | refine V.x_tup1 ?_ | refine V.x_lst1 ?_ | refine V.x_lst2 ?_ | refine V.x_starT ?_ | refine V.x_starF ?_ | refine V.x_starL ?_ | refine V.x_eqIN ?_ | refine V.x_eqNI ?_ | refine V.x_eqSN ?_ | refine V.x_eqNS ?_ | refine V.x_eqNN ?_ | refine V.x_eqBB ?_ | refine V.x_neIN ?_ | refine V.x_neNI ?_ | refine V.x_neSN ?_ | refine V.x_neNS ?_ | refine V.x_neNN ?_ | refine V.x_neBB ?_ | refine V.x_iZT ?_ | refine V.x_tup2 ?_ | refine V.x_three ?_ | refine V.x_tupF ?_ | refine V.x_tfL ?_ | refine V.x_lstRgM ?_ | refine V.x_callX ?_ | refine V.x_callNX ?_ | refine V.x_raiseX ?_ | refine V.x_dnewE ?_)) | ((with_reducible refine V.x_gN ?_); (try dsimp only [List.set_cons_zero, List.set_cons_succ])) | ((with_reducible refine V.x_par ?_); (try dsimp only [List.set_cons_zero, List.set_cons_succ])) | ((with_reducible refine V.x_par3 ?_); (try dsimp only [List.set_cons_zero, List.set_cons_succ])) | ((with_reducible refine' V.x_var ?_ ?_); rotate_left; exact rfl) | ((with_reducible refine' V.x_aug ?_ ?_); rotate_left; exact rfl; (try dsimp only [List.set_cons_zero, List.set_cons_succ])) | ((with_reducible refine' V.x_lamE ?_ ?_); assumption) | ((with_reducible refine' V.x_gT ?_ ?_); exact rfl) | ((with_reducible refine' And.intro (a := _ ≤ PySem.sizeLine) ?_ ?_); exact Nat.le_of_ble_eq_true rfl) | ((with_reducible refine' V.x_ixT ?_ ?_); rotate_left; exact rfl) | ((with_reducible refine' V.x_ixL ?_ ?_); rotate_left; exact rfl) | ((with_reducible refine' V.x_iteT ?_ ?_); (first | omega | (simp only [List.length_cons, List.length_nil, List.length_map, List.length_append]; omega))) | ((with_reducible refine' V.x_iteF ?_ ?_); (first | omega | (simp only [List.length_cons, List.length_nil, List.length_map, List.length_append]; omega))) | ((with_reducible refine' V.x_itenT ?_ ?_); (first | omega | (simp only [List.length_cons, List.length_nil, List.length_map, List.length_append]; omega))) | ((with_reducible refine' V.x_itenF ?_ ?_); (first | omega | (simp only [List.length_cons, List.length_nil, List.length_map, List.length_append]; omega))) | ((with_reducible refine' V.x_sfldQ ?_ ?_ ?_ ?_); assumption; assumption; exact Nat.le_of_ble_eq_true rfl) | ((with_reducible refine' V.x_sfldP ?_ ?_ ?_ ?_ ?_); rotate_left 2; assumption; assumption; assumption; exact Nat.le_of_ble_eq_true rfl) | ((with_reducible refine' V.x_fldI 0 ?_ ?_ ?_ ?_ ?_ ?_); rotate_left; exact rfl; exact rfl; assumption; assumption; decide +kernel) | ((with_reducible refine' V.x_fldI 1 ?_ ?_ ?_ ?_ ?_ ?_); rotate_left; exact rfl; exact rfl; assumption; assumption; decide +kernel) | ((with_reducible refine' V.x_fldI 2 ?_ ?_ ?_ ?_ ?_ ?_); rotate_left; exact rfl; exact rfl; assumption; assumption; decide +kernel) | ((with_reducible refine' V.x_fldI 3 ?_ ?_ ?_ ?_ ?_ ?_); rotate_left; exact rfl; exact rfl; assumption; assumption; decide +kernel) | ((with_reducible refine' V.x_fldI 4 ?_ ?_ ?_ ?_ ?_ ?_); rotate_left; exact rfl; exact rfl; assumption; assumption; decide +kernel) | ((with_reducible refine' V.x_fldI 5 ?_ ?_ ?_ ?_ ?_ ?_); rotate_left; exact rfl; exact rfl; assumption; assumption; decide +kernel) | ((with_reducible refine' V.x_fldI 6 ?_ ?_ ?_ ?_ ?_ ?_); rotate_left; exact rfl; exact rfl; assumption; assumption; decide +kernel) | ((with_reducible refine' V.x_fldQ 0 ?_ ?_ ?_ ?_ ?_ ?_ ?_); rotate_left 3; assumption; exact rfl; exact rfl; assumption; assumption; (first | decide +kernel | (simp only [List.map_cons, List.map_nil]; decide +kernel))) | ((with_reducible refine' V.x_fldQ 1 ?_ ?_ ?_ ?_ ?_ ?_ ?_); rotate_left 3; assumption; exact rfl; exact rfl; assumption; assumption; (first | decide +kernel | (simp only [List.map_cons, List.map_nil]; decide +kernel))) | ((with_reducible refine' V.x_fldQ 2 ?_ ?_ ?_ ?_ ?_ ?_ ?_); rotate_left 3; assumption; exact rfl; exact rfl; assumption; assumption; (first | decide +kernel | (simp only [List.map_cons, List.map_nil]; decide +kernel))) | ((with_reducible refine' V.x_fldQ 3 ?_ ?_ ?_ ?_ ?_ ?_ ?_); rotate_left 3; assumption; exact rfl; exact rfl; assumption; assumption; (first | decide +kernel | (simp only [List.map_cons, List.map_nil]; decide +kernel))) | ((with_reducible refine' V.x_fldQ 4 ?_ ?_ ?_ ?_ ?_ ?_ ?_); rotate_left 3; assumption; exact rfl; exact rfl; assumption; assumption; (first | decide +kernel | (simp only [List.map_cons, List.map_nil]; decide +kernel))) | ((with_reducible refine' V.x_fldQ 5 ?_ ?_ ?_ ?_ ?_ ?_ ?_); rotate_left 3; assumption; exact rfl; exact rfl; assumption; assumption; (first | decide +kernel | (simp only [List.map_cons, List.map_nil]; decide +kernel))) | ((with_reducible refine' V.x_fldQ 6 ?_ ?_ ?_ ?_ ?_ ?_ ?_); rotate_left 3; assumption; exact rfl; exact rfl; assumption; assumption; (first | decide +kernel | (simp only [List.map_cons, List.map_nil]; decide +kernel))) | (with_reducible (first | refine V.x_opX ?_ | refine V.x_loopC ?_ | refine V.x_loopN ?_ | refine V.x_split ?_)) | ((with_reducible apply V.x_callLX); exact rfl; (with_reducible exact rfl)) | ((with_reducible apply V.x_callLN); exact rfl; (with_reducible exact rfl)) | ((with_reducible refine' V.x_orL ?_); (with_reducible apply V.x_callLX); exact rfl; (with_reducible exact rfl)) | ((with_reducible refine' V.x_orL ?_); (with_reducible apply V.x_callLN); exact rfl; (with_reducible exact rfl)) | (with_reducible refine' V.x_orR ?_) | ((with_reducible apply V.x_ap1); walk_at "vmem") | ((with_reducible apply V.x_ap2); walk_at "vmem"; (simp [V.sizeLineN]); (first | rw [V.mset_set] | rw [V.mset_set2 (by assumption)] | skip)))))
namespace G
open PySem PySem.Spec PyProof.Rows L2 U
section
variable {P : Program} {w : World} {K : PySem.W.Frag} {mg : Str → Option Value} {base : Heap}
theorem ok1__law_ladle (T : Tx K mg) : FnOk P w K mg base L2.CX0 lv__law_ladle T.f__law_ladle T.d__law_ladle p__law_ladle spDraw1 := by
  refine T.F__law_ladle.ok sc__law_ladle (fun vs H Q E h => ?_) (fun cdv A outer s H vs Q E hr h => ?_)
  · obtain ⟨p, n, a, b, c, rfl, _⟩ := h
    rfl
  · obtain ⟨p, n, a, b, c, rfl, hp, ⟨hn, hn2⟩, q⟩ := h
    refine ⟨_, (pss_cons (ps_asg (pe_op op_addU (pe_ix (ix_K (K := K) rfl) (pv 0) pe_int (fun _ _ => rfl)) pe_int) (pg_sub (pv 0) pe_int set_list))
        (pss_cons (ps_if (pt_cmpR op_gt (pe_ix (ix_K (K := K) rfl) (pv 0) pe_int (fun _ _ => rfl)) pe_int (nomark _)) (pss_cons (ps_asg (pe_callB call_divmod (by rfl) T.n_divmod (by decide +kernel) (pa_cons (pe_callTy call_intU (by rfl) T.n_int (by decide +kernel) (pa_cons (pe_ix (ix_K (K := K) rfl) (pv 0) pe_int (fun _ _ => rfl)) pa_nil)) (pa_cons (pv 1) pa_nil))) (pg_tupK (K := K) (n := 2) rfl rfl (pgs_cons (pg_sub (pv 0) pe_int set_list) (pgs_cons (pg_name (i := 2) sc__law_ladle.nd rfl (by first | exact Or.inl rfl | exact Or.inr rfl)) pgs_nil))))
        (pss_one (ps_ret (pv 2)))) pss_nil)
        (pss_cons (ps_asg (pe_op op_mod (pe_callTy call_intU (by rfl) T.n_int (by decide +kernel) (pa_cons (pe_op op_addU (pe_op op_addU (pe_op op_mul (pe_ix (ix_K (K := K) rfl) (pv 0) pe_int (fun _ _ => rfl)) pe_int) (pe_op op_mul (pe_ix (ix_K (K := K) rfl) (pv 0) pe_int (fun _ _ => rfl)) pe_int)) (pe_op op_mul (pe_op op_fdiv (pe_ix (ix_K (K := K) rfl) (pv 0) pe_int (fun _ _ => rfl)) pe_int) pe_int)) pa_nil)) pe_int) (pg_sub (pv 0) pe_int set_list))
        (pss_one (ps_ret (pe_op op_mod (pe_callTy call_intU (by rfl) T.n_int (by decide +kernel) (pa_cons (pe_op op_fdiv (pe_ix (ix_K (K := K) rfl) (pv 0) pe_int (fun _ _ => rfl)) pe_int) pa_nil)) (pv 1))))))), ?_⟩
    walk_at "go"
    refine ⟨_, .inl (SqL.of hp), _, rfl, ?_⟩
    walk_at "go"
    refine ⟨p, _, 1, 1, rfl, rfl, hp, rfl, ?_⟩
    have e1 : ([V.int a, V.int b, V.int c] : List V).set 1 (V.int (b + 3)) = [.int a, .int (b + 3), .int c] := rfl
    rw [e1]
    refine ⟨_, .inl (SqL.of upd_same), _, rfl, ?_⟩
    walk_at "go"
    refine ite2 (fun ca => ?_) (fun ca => ?_)
    · refine ⟨_, .inl (SqL.of upd_same), _, rfl, ?_⟩
      walk_at "go"
      refine ⟨a, n, rfl, ⟨hn, hn2⟩, fun t ht => ?_⟩
      have npt : p ≠ t := ne_of_none upd_same ht
      refine ⟨_, SqT.of upd_same, rfl, ?_⟩
      walk_at "go"
      refine ⟨p, _, 0, 0, rfl, rfl, (by rw [upd_ne npt]; exact upd_same), rfl, ?_⟩
      rw [upd_ne npt.symm] at ht
      refine q _ _ _ _ _ ?_ upd_same (Int.emod_nonneg _ (by omega)) (Int.emod_lt_of_pos _ hn)
      refine Ext.mut (Ext.new (Ext.mut (Ext.refl _) rfl) ?_) rfl
      rw [upd_ne npt.symm]
      exact ht
    · refine ⟨_, .inl (SqL.of upd_same), _, rfl, ?_⟩
      walk_at "go"
      refine ⟨.inr ⟨by decide, by decide⟩, _, .inl (SqL.of upd_same), _, rfl, ?_⟩
      walk_at "go"
      refine ⟨.inr ⟨by decide, by decide⟩, _, .inl (SqL.of upd_same), _, rfl, ?_⟩
      walk_at "go"
      refine ⟨⟨by decide, by decide⟩, .inr ⟨by decide, by decide⟩, by decide, ?_⟩
      refine ⟨p, _, 2, 2, rfl, rfl, upd_same, rfl, ?_⟩
      refine ⟨_, .inl (SqL.of upd_same), _, rfl, ?_⟩
      walk_at "go"
      refine ⟨⟨by decide, by decide⟩, hn, ?_⟩
      refine q _ _ _ _ _ ?_ upd_same (Int.emod_nonneg _ (by omega)) (Int.emod_lt_of_pos _ hn)
      exact Ext.mut (Ext.mut (Ext.refl _) rfl) rfl
theorem ok__law_ladle (T : Tx K mg) : FnOk P w K mg base L2.CX0 lv__law_ladle T.f__law_ladle T.d__law_ladle p__law_ladle spDraw := fn_draw (ok1__law_ladle T) rfl
theorem ok1__law_pot (T : Tx K mg) : FnOk P w K mg base L2.CX0 lv__law_pot T.f__law_pot T.d__law_pot p__law_pot (spPot1 K) := by
  refine T.F__law_pot.ok sc__law_pot (fun vs H Q E h => ?_) (fun cdv A outer s H vs Q E hr h => ?_)
  · obtain ⟨a, ns, i, rfl, _⟩ := h
    rfl
  · obtain ⟨a, ns, i, rfl, hS, hn, hi, q⟩ := h
    refine ⟨_, (pss_cons (ps_set (i := 2) sc__law_pot.nd rfl (by first | exact Or.inl rfl | exact Or.inr rfl) (pe_ifExp (pt_cmpR op_ltU (pv 1) (pe_callB (call_lenK (K := K) rfl) (by rfl) T.n_len (by decide +kernel) (pa_cons (pv 0) pa_nil)) (nomark _)) (pe_callTy call_intU (by rfl) T.n_int (by decide +kernel) (pa_cons (pe_ix (ix_K (K := K) rfl) (pv 0) (pv 1) (fun _ _ => rfl)) pa_nil)) (pe_op op_addU (pe_op op_mul pe_int (pv 1)) pe_int)))
        (pss_cons (ps_set (i := 3) sc__law_pot.nd rfl (by first | exact Or.inl rfl | exact Or.inr rfl) (pe_op op_addU pe_int (pe_op op_mul pe_int (pv 1))))
        (pss_cons (ps_for PassesOwn.never rfl (pi_listK (K := K) rfl (pe_slice (sl_K (K := K) rfl) (pv 0) po_none (po_some pe_int))) (pg_name (i := 4) sc__law_pot.nd rfl (by first | exact Or.inl rfl | exact Or.inr rfl)) (pss_one (ps_set (i := 3) sc__law_pot.nd rfl (by first | exact Or.inl rfl | exact Or.inr rfl) (pe_op op_mod (pe_callTy call_intU (by rfl) T.n_int (by decide +kernel) (pa_cons (pe_op op_addU (pe_op op_mul (pv 3) pe_int) (pe_op op_mod (pe_callTy call_intU (by rfl) T.n_int (by decide +kernel) (pa_cons (pv 4) pa_nil)) pe_int)) pa_nil)) pe_int))))
        (pss_one (ps_ret (pe_lst (pa_cons (pe_ifExp (PW.pt (pw_or (pt_cmpR op_ltU (pv 2) pe_int (nomark _)) (pw_or1 (pt_cmpR op_ge (pv 2) (pe_op op_pow pe_int pe_int) (nomark _))))) (pe_callB call_absU (by rfl) T.n_abs (by decide +kernel) (pa_cons (pv 2) pa_nil)) pe_int) (pa_cons pe_int (pa_cons (pe_op op_mod (pe_callTy call_intU (by rfl) T.n_int (by decide +kernel) (pa_cons (pe_op op_addU (pe_op op_mul (pv 3) pe_int) (pe_op op_mod (pv 2) pe_int)) pa_nil)) pe_int) pa_nil))))))))), ?_⟩
    walk_at "go"
    refine ⟨_, .inl hS, ?_⟩
    walk_at "go"
    refine ite2 (fun c => ?_) (fun c => ?_)
    rw [List.length_map] at c
    have hz : ns[i]? = some ns[i] := by simp [show i < ns.length by omega]
    refine ⟨_, .inl hS, .int ns[i], atI_nat (by rw [List.getElem?_map, hz]; rfl), ?_⟩
    walk_at "go"
    refine ⟨.inl ⟨by decide, by decide⟩, ?_⟩
    rotate_left
    refine ⟨.inl ⟨by decide, by decide⟩, .inl ⟨by decide, by decide⟩, ?_⟩
    all_goals
      refine ⟨_, sli_l hS, fun p1 np1 => ?_⟩
      have e14 : cutV (ns.map V.int) none (some 14) = (ns.take 14).map V.int := by rw [List.map_take]; exact cutV_to _ 14
      rw [e14]
      have s1 := Same.new (o := .lst ((ns.take 14).map V.int)) np1
      refine forL (S := N0) upd_same (fun z => z) (fun j σ H' => Same H H' ∧ Ext N0 (upd H p1 (.lst ((ns.take 14).map V.int))) H' ∧ ∃ o m u, σ = [some (.ref a), some (.int i), some (.int o), some (.int m), u]) ⟨s1, Ext.refl _, _, _, _, rfl⟩ (fun j σ' H' hI => hI.2.1) ?_ ?_
      · rintro j x σ' H' hx ⟨hS1, hE, o, m, u, rfl⟩
        rw [List.getElem?_map] at hx
        obtain ⟨z, _, rfl⟩ := Option.map_eq_some_iff.mp hx
        walk_at "go"
        exact ⟨.inr ⟨by decide, by decide⟩, by decide, by decide, hS1, hE, _, _, _, rfl⟩
      · rintro σ' H' ⟨hS1, hE, o, m, u, rfl⟩
        walk_at "go"
        have fin : ∀ n : Int, (CMul m 9 ∧ (0 : Int) < 1999999889 ∧ (0 : Int) < 1999999889 ∧ 3 ≤ sizeLine ∧ ∀ p, H' p = none → Q (.ref p) (upd H' p (.lst [.int n, .int 2, .int ((m * 9 + o % 1999999889) % 1999999889)]))) := fun n =>
          ⟨.inr ⟨by decide, by decide⟩, by decide, by decide, by decide, fun p hp => q p _ _ _ _ (Same.snew hS1 hp) (Same.free hS1 hp) upd_same⟩
        refine ite2 (fun c1 => fin _) (fun c1 => ⟨⟨by decide, by decide, by decide⟩, ite2 (fun c2 => fin _) (fun c2 => fin _)⟩)
end
end G
namespace G
open PySem PySem.Spec PyProof.Rows L2 U V
section
variable {P : Program} {w : World} {K : PySem.W.Frag} {mg : Str → Option Value} {base : Heap}
theorem okD__law_ladle (T : Tx K mg) : FnOk P w K mg base L2.CX0 lv__law_ladle T.f__law_ladle T.d__law_ladle p__law_ladle (lift spDrawD) := fn_weak (ok__law_ladle T) draw_lift
def spOneOfD : DC := fun ds M R => ∃ p v, ds = [potD p, v] ∧ ((∃ xs, isSq M v xs ∧ 0 < xs.length ∧ xs.length < 1000000 ∧ ∀ x ∈ xs, R x M) ∨ (∃ z, v = .str z ∧ 0 < z.length ∧ z.length < 1000000 ∧ ∀ c ∈ cd z, R (.str (one c)) M))
theorem okD__law_one_of (T : Tx K mg) : FnOk P w K mg base L2.CX0 lv__law_one_of T.f__law_one_of T.d__law_one_of p__law_one_of (lift (spOneOfD)) := by
  refine fnD T.F__law_one_of sc__law_one_of (fun ds M R h => ?_) (fun cdv A outer s H E hr => ?_)
  · first | (obtain ⟨rfl, _⟩ := h; rfl) | (obtain ⟨_, rfl, _⟩ := h; rfl) | (obtain ⟨_, _, rfl, _⟩ := h; rfl) | (obtain ⟨_, _, _, rfl, _⟩ := h; rfl) | (obtain ⟨_, _, _, _, rfl, _⟩ := h; rfl) | (obtain ⟨_, _, _, _, _, rfl, _⟩ := h; rfl) | (obtain ⟨_, _, _, _, _, _, rfl, _⟩ := h; rfl) | (obtain ⟨_, _, _, _, _, _, _, rfl, _⟩ := h; rfl) | (obtain ⟨_, _, _, _, _, _, _, _, rfl, _⟩ := h; rfl)
  · have hr64 := hr.units

    refine ⟨_, (pss_one (ps_ret (pe_ix (ix_K (K := K) rfl) (pv 1) (pe_call (okD__law_ladle T) (hr.mono (by decide)) rfl T.m__law_ladle T.F__law_ladle.kp T.b__law_ladle .nil pass0 (pa_cons (pv 0) (pa_cons (pe_callB (call_lenK (K := K) rfl) (by rfl) T.n_len (by decide +kernel) (pa_cons (pv 1) pa_nil)) pa_nil))) (fun _ _ => rfl)))), ?_⟩
    refine ⟨_, inferInstance, fun ds M R h => ?_⟩
    obtain ⟨p, v, rfl, h⟩ := h
    walk_at "dw"
    rcases h with ⟨xs, hx, h0, h1, q⟩ | ⟨z, rfl, h0, h1, q⟩
    · have hl : ∀ R' : Int → Prop, R' xs.length → V.lenR M v R' := by
        intro R' hR
        rcases hx with rfl | hx | ⟨a, rfl, hx⟩
        · exact ⟨xs, .inl rfl, hR⟩
        · rcases tf_cases hx with rfl | rfl <;> exact ⟨xs, .inr (.inl rfl), hR⟩
        · exact ⟨xs, .inr (.inr ⟨a, rfl, hx⟩), hR⟩
      refine ⟨v, rfl, hl _ ?_⟩
      walk_at "dw"
      refine ⟨p, _, rfl, ⟨by omega, by omega⟩, fun r r0 r1 => ?_⟩
      obtain ⟨j, rfl⟩ := Int.eq_ofNat_of_zero_le r0
      have hj : j < xs.length := by omega
      have e : atI xs ((j : Nat) : Int) = some xs[j] := atI_nat (at_some hj)
      have q2 := q _ (List.getElem_mem hj)
      rcases hx with rfl | hx | ⟨a, rfl, hx⟩
      · exact ⟨xs, _, .inl rfl, e, q2⟩
      · rcases tf_cases hx with rfl | rfl <;> exact ⟨xs, _, .inr (.inl rfl), e, q2⟩
      · exact ⟨xs, _, .inr (.inr ⟨a, rfl, hx⟩), e, q2⟩
    · refine V.x_lenS ⟨by rw [sizeLine_eq]; omega, ?_⟩
      walk_at "dw"
      refine ⟨p, _, rfl, ⟨by omega, by omega⟩, fun r r0 r1 => ?_⟩
      obtain ⟨j, rfl⟩ := Int.eq_ofNat_of_zero_le r0
      have hj : j < (cd z).length := by rw [cd_len]; omega
      exact ⟨_, by rw [sizeLine_eq]; omega, atI_nat (at_some hj), q _ (List.getElem_mem hj)⟩
end
end G
namespace G
open PySem PySem.Spec PyProof.Rows L2 U V
section
variable {P : Program} {w : World} {K : PySem.W.Frag} {mg : Str → Option Value} {base : Heap}
structure RfX (T : Tx K mg) (C : Addr) (k : Nat) : Prop where
  ex : L2.ExcC K C
  xf : XfC K C
  k0 : PySem.W.kitOne K (.ref C) (.ref T.C_InvalidNumber) = some (decide (k = 0))
  k1 : PySem.W.kitOne K (.ref C) (.ref T.C_InvalidMark) = some (decide (k = 1))
  k2 : PySem.W.kitOne K (.ref C) (.ref T.C_InvalidText) = some (decide (k = 2))
  k3 : PySem.W.kitOne K (.ref C) (.ref T.C_InvalidLength) = some (decide (k = 3))
  k4 : PySem.W.kitOne K (.ref C) (.ref T.C_InvalidRule) = some (decide (k = 4))
  k5 : PySem.W.kitOne K (.ref C) (.ref T.C_InvalidWidth) = some (decide (k = 5))
  k6 : PySem.W.kitOne K (.ref C) (.ref T.C_InvalidPlace) = some (decide (k = 6))
  k7 : PySem.W.kitOne K (.ref C) (.ref T.C_InvalidLine) = some (decide (k = 7))
  k8 : PySem.W.kitOne K (.ref C) (.ref T.C_NotANamer) = some (decide (k = 8))
  k9 : PySem.W.kitOne K (.ref C) (.ref T.C_NotAShelf) = some (decide (k = 9))
  k10 : PySem.W.kitOne K (.ref C) (.ref T.C_InvalidRow) = some (decide (k = 10))
  k11 : PySem.W.kitOne K (.ref C) (.ref T.C_InvalidViews) = some (decide (k = 11))
  k12 : PySem.W.kitOne K (.ref C) (.ref T.C_InvalidTexts) = some (decide (k = 12))
  k13 : PySem.W.kitOne K (.ref C) (.ref T.C_InvalidDeeds) = some (decide (k = 13))
  k14 : PySem.W.kitOne K (.ref C) (.ref T.C_NothingToUndo) = some (decide (k = 14))
  k15 : PySem.W.kitOne K (.ref C) (.ref T.C_Busy) = some (decide (k = 15))
  k16 : PySem.W.kitOne K (.ref C) (.ref T.C_UnknownName) = some (decide (k = 16))
  k17 : PySem.W.kitOne K (.ref C) (.ref T.C_TooMany) = some (decide (k = 17))
  k18 : PySem.W.kitOne K (.ref C) (.ref T.C_InputError) = some (decide (k < 14))
  k19 : PySem.W.kitOne K (.ref C) (.ref T.C_StateError) = some ((decide (13 < k) && decide (k < 17)))
  k20 : PySem.W.kitOne K (.ref C) (.ref T.C_SizeError) = some (decide (k = 17))
  k21 : PySem.W.kitOne K (.ref C) (.type "ValueError") = some (decide (k < 14))
  k22 : PySem.W.kitOne K (.ref C) (.type "LookupError") = some ((decide (13 < k) && decide (k < 17)))
  k23 : PySem.W.kitOne K (.ref C) (.type "ArithmeticError") = some (decide (k = 17))
theorem rf_InvalidNumber (T : Tx K mg) : RfX T T.C_InvalidNumber 0 := ⟨T.ex_InvalidNumber, T.xf_InvalidNumber, T.kr_InvalidNumber_0, T.kr_InvalidNumber_1, T.kr_InvalidNumber_2, T.kr_InvalidNumber_3, T.kr_InvalidNumber_4, T.kr_InvalidNumber_5, T.kr_InvalidNumber_6, T.kr_InvalidNumber_7, T.kr_InvalidNumber_8, T.kr_InvalidNumber_9, T.kr_InvalidNumber_10, T.kr_InvalidNumber_11, T.kr_InvalidNumber_12, T.kr_InvalidNumber_13, T.kr_InvalidNumber_14, T.kr_InvalidNumber_15, T.kr_InvalidNumber_16, T.kr_InvalidNumber_17, T.kr_InvalidNumber_18, T.kr_InvalidNumber_19, T.kr_InvalidNumber_20, T.kr_InvalidNumber_21, T.kr_InvalidNumber_22, T.kr_InvalidNumber_23⟩
theorem rf_InvalidMark (T : Tx K mg) : RfX T T.C_InvalidMark 1 := ⟨T.ex_InvalidMark, T.xf_InvalidMark, T.kr_InvalidMark_0, T.kr_InvalidMark_1, T.kr_InvalidMark_2, T.kr_InvalidMark_3, T.kr_InvalidMark_4, T.kr_InvalidMark_5, T.kr_InvalidMark_6, T.kr_InvalidMark_7, T.kr_InvalidMark_8, T.kr_InvalidMark_9, T.kr_InvalidMark_10, T.kr_InvalidMark_11, T.kr_InvalidMark_12, T.kr_InvalidMark_13, T.kr_InvalidMark_14, T.kr_InvalidMark_15, T.kr_InvalidMark_16, T.kr_InvalidMark_17, T.kr_InvalidMark_18, T.kr_InvalidMark_19, T.kr_InvalidMark_20, T.kr_InvalidMark_21, T.kr_InvalidMark_22, T.kr_InvalidMark_23⟩
theorem rf_InvalidText (T : Tx K mg) : RfX T T.C_InvalidText 2 := ⟨T.ex_InvalidText, T.xf_InvalidText, T.kr_InvalidText_0, T.kr_InvalidText_1, T.kr_InvalidText_2, T.kr_InvalidText_3, T.kr_InvalidText_4, T.kr_InvalidText_5, T.kr_InvalidText_6, T.kr_InvalidText_7, T.kr_InvalidText_8, T.kr_InvalidText_9, T.kr_InvalidText_10, T.kr_InvalidText_11, T.kr_InvalidText_12, T.kr_InvalidText_13, T.kr_InvalidText_14, T.kr_InvalidText_15, T.kr_InvalidText_16, T.kr_InvalidText_17, T.kr_InvalidText_18, T.kr_InvalidText_19, T.kr_InvalidText_20, T.kr_InvalidText_21, T.kr_InvalidText_22, T.kr_InvalidText_23⟩
theorem rf_InvalidLength (T : Tx K mg) : RfX T T.C_InvalidLength 3 := ⟨T.ex_InvalidLength, T.xf_InvalidLength, T.kr_InvalidLength_0, T.kr_InvalidLength_1, T.kr_InvalidLength_2, T.kr_InvalidLength_3, T.kr_InvalidLength_4, T.kr_InvalidLength_5, T.kr_InvalidLength_6, T.kr_InvalidLength_7, T.kr_InvalidLength_8, T.kr_InvalidLength_9, T.kr_InvalidLength_10, T.kr_InvalidLength_11, T.kr_InvalidLength_12, T.kr_InvalidLength_13, T.kr_InvalidLength_14, T.kr_InvalidLength_15, T.kr_InvalidLength_16, T.kr_InvalidLength_17, T.kr_InvalidLength_18, T.kr_InvalidLength_19, T.kr_InvalidLength_20, T.kr_InvalidLength_21, T.kr_InvalidLength_22, T.kr_InvalidLength_23⟩
theorem rf_InvalidRule (T : Tx K mg) : RfX T T.C_InvalidRule 4 := ⟨T.ex_InvalidRule, T.xf_InvalidRule, T.kr_InvalidRule_0, T.kr_InvalidRule_1, T.kr_InvalidRule_2, T.kr_InvalidRule_3, T.kr_InvalidRule_4, T.kr_InvalidRule_5, T.kr_InvalidRule_6, T.kr_InvalidRule_7, T.kr_InvalidRule_8, T.kr_InvalidRule_9, T.kr_InvalidRule_10, T.kr_InvalidRule_11, T.kr_InvalidRule_12, T.kr_InvalidRule_13, T.kr_InvalidRule_14, T.kr_InvalidRule_15, T.kr_InvalidRule_16, T.kr_InvalidRule_17, T.kr_InvalidRule_18, T.kr_InvalidRule_19, T.kr_InvalidRule_20, T.kr_InvalidRule_21, T.kr_InvalidRule_22, T.kr_InvalidRule_23⟩
theorem rf_InvalidWidth (T : Tx K mg) : RfX T T.C_InvalidWidth 5 := ⟨T.ex_InvalidWidth, T.xf_InvalidWidth, T.kr_InvalidWidth_0, T.kr_InvalidWidth_1, T.kr_InvalidWidth_2, T.kr_InvalidWidth_3, T.kr_InvalidWidth_4, T.kr_InvalidWidth_5, T.kr_InvalidWidth_6, T.kr_InvalidWidth_7, T.kr_InvalidWidth_8, T.kr_InvalidWidth_9, T.kr_InvalidWidth_10, T.kr_InvalidWidth_11, T.kr_InvalidWidth_12, T.kr_InvalidWidth_13, T.kr_InvalidWidth_14, T.kr_InvalidWidth_15, T.kr_InvalidWidth_16, T.kr_InvalidWidth_17, T.kr_InvalidWidth_18, T.kr_InvalidWidth_19, T.kr_InvalidWidth_20, T.kr_InvalidWidth_21, T.kr_InvalidWidth_22, T.kr_InvalidWidth_23⟩
theorem rf_InvalidPlace (T : Tx K mg) : RfX T T.C_InvalidPlace 6 := ⟨T.ex_InvalidPlace, T.xf_InvalidPlace, T.kr_InvalidPlace_0, T.kr_InvalidPlace_1, T.kr_InvalidPlace_2, T.kr_InvalidPlace_3, T.kr_InvalidPlace_4, T.kr_InvalidPlace_5, T.kr_InvalidPlace_6, T.kr_InvalidPlace_7, T.kr_InvalidPlace_8, T.kr_InvalidPlace_9, T.kr_InvalidPlace_10, T.kr_InvalidPlace_11, T.kr_InvalidPlace_12, T.kr_InvalidPlace_13, T.kr_InvalidPlace_14, T.kr_InvalidPlace_15, T.kr_InvalidPlace_16, T.kr_InvalidPlace_17, T.kr_InvalidPlace_18, T.kr_InvalidPlace_19, T.kr_InvalidPlace_20, T.kr_InvalidPlace_21, T.kr_InvalidPlace_22, T.kr_InvalidPlace_23⟩
theorem rf_InvalidLine (T : Tx K mg) : RfX T T.C_InvalidLine 7 := ⟨T.ex_InvalidLine, T.xf_InvalidLine, T.kr_InvalidLine_0, T.kr_InvalidLine_1, T.kr_InvalidLine_2, T.kr_InvalidLine_3, T.kr_InvalidLine_4, T.kr_InvalidLine_5, T.kr_InvalidLine_6, T.kr_InvalidLine_7, T.kr_InvalidLine_8, T.kr_InvalidLine_9, T.kr_InvalidLine_10, T.kr_InvalidLine_11, T.kr_InvalidLine_12, T.kr_InvalidLine_13, T.kr_InvalidLine_14, T.kr_InvalidLine_15, T.kr_InvalidLine_16, T.kr_InvalidLine_17, T.kr_InvalidLine_18, T.kr_InvalidLine_19, T.kr_InvalidLine_20, T.kr_InvalidLine_21, T.kr_InvalidLine_22, T.kr_InvalidLine_23⟩
theorem rf_NotANamer (T : Tx K mg) : RfX T T.C_NotANamer 8 := ⟨T.ex_NotANamer, T.xf_NotANamer, T.kr_NotANamer_0, T.kr_NotANamer_1, T.kr_NotANamer_2, T.kr_NotANamer_3, T.kr_NotANamer_4, T.kr_NotANamer_5, T.kr_NotANamer_6, T.kr_NotANamer_7, T.kr_NotANamer_8, T.kr_NotANamer_9, T.kr_NotANamer_10, T.kr_NotANamer_11, T.kr_NotANamer_12, T.kr_NotANamer_13, T.kr_NotANamer_14, T.kr_NotANamer_15, T.kr_NotANamer_16, T.kr_NotANamer_17, T.kr_NotANamer_18, T.kr_NotANamer_19, T.kr_NotANamer_20, T.kr_NotANamer_21, T.kr_NotANamer_22, T.kr_NotANamer_23⟩
theorem rf_NotAShelf (T : Tx K mg) : RfX T T.C_NotAShelf 9 := ⟨T.ex_NotAShelf, T.xf_NotAShelf, T.kr_NotAShelf_0, T.kr_NotAShelf_1, T.kr_NotAShelf_2, T.kr_NotAShelf_3, T.kr_NotAShelf_4, T.kr_NotAShelf_5, T.kr_NotAShelf_6, T.kr_NotAShelf_7, T.kr_NotAShelf_8, T.kr_NotAShelf_9, T.kr_NotAShelf_10, T.kr_NotAShelf_11, T.kr_NotAShelf_12, T.kr_NotAShelf_13, T.kr_NotAShelf_14, T.kr_NotAShelf_15, T.kr_NotAShelf_16, T.kr_NotAShelf_17, T.kr_NotAShelf_18, T.kr_NotAShelf_19, T.kr_NotAShelf_20, T.kr_NotAShelf_21, T.kr_NotAShelf_22, T.kr_NotAShelf_23⟩
theorem rf_InvalidRow (T : Tx K mg) : RfX T T.C_InvalidRow 10 := ⟨T.ex_InvalidRow, T.xf_InvalidRow, T.kr_InvalidRow_0, T.kr_InvalidRow_1, T.kr_InvalidRow_2, T.kr_InvalidRow_3, T.kr_InvalidRow_4, T.kr_InvalidRow_5, T.kr_InvalidRow_6, T.kr_InvalidRow_7, T.kr_InvalidRow_8, T.kr_InvalidRow_9, T.kr_InvalidRow_10, T.kr_InvalidRow_11, T.kr_InvalidRow_12, T.kr_InvalidRow_13, T.kr_InvalidRow_14, T.kr_InvalidRow_15, T.kr_InvalidRow_16, T.kr_InvalidRow_17, T.kr_InvalidRow_18, T.kr_InvalidRow_19, T.kr_InvalidRow_20, T.kr_InvalidRow_21, T.kr_InvalidRow_22, T.kr_InvalidRow_23⟩
theorem rf_InvalidViews (T : Tx K mg) : RfX T T.C_InvalidViews 11 := ⟨T.ex_InvalidViews, T.xf_InvalidViews, T.kr_InvalidViews_0, T.kr_InvalidViews_1, T.kr_InvalidViews_2, T.kr_InvalidViews_3, T.kr_InvalidViews_4, T.kr_InvalidViews_5, T.kr_InvalidViews_6, T.kr_InvalidViews_7, T.kr_InvalidViews_8, T.kr_InvalidViews_9, T.kr_InvalidViews_10, T.kr_InvalidViews_11, T.kr_InvalidViews_12, T.kr_InvalidViews_13, T.kr_InvalidViews_14, T.kr_InvalidViews_15, T.kr_InvalidViews_16, T.kr_InvalidViews_17, T.kr_InvalidViews_18, T.kr_InvalidViews_19, T.kr_InvalidViews_20, T.kr_InvalidViews_21, T.kr_InvalidViews_22, T.kr_InvalidViews_23⟩
theorem rf_InvalidTexts (T : Tx K mg) : RfX T T.C_InvalidTexts 12 := ⟨T.ex_InvalidTexts, T.xf_InvalidTexts, T.kr_InvalidTexts_0, T.kr_InvalidTexts_1, T.kr_InvalidTexts_2, T.kr_InvalidTexts_3, T.kr_InvalidTexts_4, T.kr_InvalidTexts_5, T.kr_InvalidTexts_6, T.kr_InvalidTexts_7, T.kr_InvalidTexts_8, T.kr_InvalidTexts_9, T.kr_InvalidTexts_10, T.kr_InvalidTexts_11, T.kr_InvalidTexts_12, T.kr_InvalidTexts_13, T.kr_InvalidTexts_14, T.kr_InvalidTexts_15, T.kr_InvalidTexts_16, T.kr_InvalidTexts_17, T.kr_InvalidTexts_18, T.kr_InvalidTexts_19, T.kr_InvalidTexts_20, T.kr_InvalidTexts_21, T.kr_InvalidTexts_22, T.kr_InvalidTexts_23⟩
theorem rf_InvalidDeeds (T : Tx K mg) : RfX T T.C_InvalidDeeds 13 := ⟨T.ex_InvalidDeeds, T.xf_InvalidDeeds, T.kr_InvalidDeeds_0, T.kr_InvalidDeeds_1, T.kr_InvalidDeeds_2, T.kr_InvalidDeeds_3, T.kr_InvalidDeeds_4, T.kr_InvalidDeeds_5, T.kr_InvalidDeeds_6, T.kr_InvalidDeeds_7, T.kr_InvalidDeeds_8, T.kr_InvalidDeeds_9, T.kr_InvalidDeeds_10, T.kr_InvalidDeeds_11, T.kr_InvalidDeeds_12, T.kr_InvalidDeeds_13, T.kr_InvalidDeeds_14, T.kr_InvalidDeeds_15, T.kr_InvalidDeeds_16, T.kr_InvalidDeeds_17, T.kr_InvalidDeeds_18, T.kr_InvalidDeeds_19, T.kr_InvalidDeeds_20, T.kr_InvalidDeeds_21, T.kr_InvalidDeeds_22, T.kr_InvalidDeeds_23⟩
theorem rf_NothingToUndo (T : Tx K mg) : RfX T T.C_NothingToUndo 14 := ⟨T.ex_NothingToUndo, T.xf_NothingToUndo, T.kr_NothingToUndo_0, T.kr_NothingToUndo_1, T.kr_NothingToUndo_2, T.kr_NothingToUndo_3, T.kr_NothingToUndo_4, T.kr_NothingToUndo_5, T.kr_NothingToUndo_6, T.kr_NothingToUndo_7, T.kr_NothingToUndo_8, T.kr_NothingToUndo_9, T.kr_NothingToUndo_10, T.kr_NothingToUndo_11, T.kr_NothingToUndo_12, T.kr_NothingToUndo_13, T.kr_NothingToUndo_14, T.kr_NothingToUndo_15, T.kr_NothingToUndo_16, T.kr_NothingToUndo_17, T.kr_NothingToUndo_18, T.kr_NothingToUndo_19, T.kr_NothingToUndo_20, T.kr_NothingToUndo_21, T.kr_NothingToUndo_22, T.kr_NothingToUndo_23⟩
theorem rf_Busy (T : Tx K mg) : RfX T T.C_Busy 15 := ⟨T.ex_Busy, T.xf_Busy, T.kr_Busy_0, T.kr_Busy_1, T.kr_Busy_2, T.kr_Busy_3, T.kr_Busy_4, T.kr_Busy_5, T.kr_Busy_6, T.kr_Busy_7, T.kr_Busy_8, T.kr_Busy_9, T.kr_Busy_10, T.kr_Busy_11, T.kr_Busy_12, T.kr_Busy_13, T.kr_Busy_14, T.kr_Busy_15, T.kr_Busy_16, T.kr_Busy_17, T.kr_Busy_18, T.kr_Busy_19, T.kr_Busy_20, T.kr_Busy_21, T.kr_Busy_22, T.kr_Busy_23⟩
theorem rf_UnknownName (T : Tx K mg) : RfX T T.C_UnknownName 16 := ⟨T.ex_UnknownName, T.xf_UnknownName, T.kr_UnknownName_0, T.kr_UnknownName_1, T.kr_UnknownName_2, T.kr_UnknownName_3, T.kr_UnknownName_4, T.kr_UnknownName_5, T.kr_UnknownName_6, T.kr_UnknownName_7, T.kr_UnknownName_8, T.kr_UnknownName_9, T.kr_UnknownName_10, T.kr_UnknownName_11, T.kr_UnknownName_12, T.kr_UnknownName_13, T.kr_UnknownName_14, T.kr_UnknownName_15, T.kr_UnknownName_16, T.kr_UnknownName_17, T.kr_UnknownName_18, T.kr_UnknownName_19, T.kr_UnknownName_20, T.kr_UnknownName_21, T.kr_UnknownName_22, T.kr_UnknownName_23⟩
theorem rf_TooMany (T : Tx K mg) : RfX T T.C_TooMany 17 := ⟨T.ex_TooMany, T.xf_TooMany, T.kr_TooMany_0, T.kr_TooMany_1, T.kr_TooMany_2, T.kr_TooMany_3, T.kr_TooMany_4, T.kr_TooMany_5, T.kr_TooMany_6, T.kr_TooMany_7, T.kr_TooMany_8, T.kr_TooMany_9, T.kr_TooMany_10, T.kr_TooMany_11, T.kr_TooMany_12, T.kr_TooMany_13, T.kr_TooMany_14, T.kr_TooMany_15, T.kr_TooMany_16, T.kr_TooMany_17, T.kr_TooMany_18, T.kr_TooMany_19, T.kr_TooMany_20, T.kr_TooMany_21, T.kr_TooMany_22, T.kr_TooMany_23⟩
def rowsB (k : Nat) : List Bool := [decide (k = 0), decide (k = 1), decide (k = 2), decide (k = 3), decide (k = 4), decide (k = 5), decide (k = 6), decide (k = 7), decide (k = 8), decide (k = 9), decide (k = 10), decide (k = 11), decide (k = 12), decide (k = 13), decide (k = 14), decide (k = 15), decide (k = 16), decide (k = 17)]
theorem isx_c {a C A : Addr} {fs : List (Str × D)} {b : Bool} {M : Mem} {R : QD} (ha : M a = some (.xob C fs)) (E : ExcC K C) (k : PySem.W.kitOne K (.ref C) (.ref A) = some b) (q : R (.bl b) M) : rIsXD K [.ptr a, .ptr A] M R := ⟨a, C, fs, _, _, b, rfl, ha, E, .inl ⟨A, rfl, rfl⟩, k, q⟩
theorem isx_t {a C : Addr} {n : String} {fs : List (Str × D)} {b : Bool} {M : Mem} {R : QD} (ha : M a = some (.xob C fs)) (E : ExcC K C) (k : PySem.W.kitOne K (.ref C) (.type n) = some b) (q : R (.bl b) M) : rIsXD K [.ptr a, .ty n] M R := ⟨a, C, fs, _, _, b, rfl, ha, E, .inr ⟨n, rfl, rfl⟩, k, q⟩
theorem okE_InvalidNumber___init__ (T : Tx K mg) : FnOk P w K mg base L2.CX0 lv_InvalidNumber___init__ T.f_InvalidNumber___init__ T.d_InvalidNumber___init__ p_InvalidNumber___init__ (spExI T.C_InvalidNumber "value") := by
  refine T.F_InvalidNumber___init__.ok sc_InvalidNumber___init__ (fun vs H Q E h => ?_) (fun cdv A outer s H vs Q E hr h => ?_)
  · obtain ⟨a, y, rfl, _⟩ := h
    rfl
  · obtain ⟨a, y, rfl, ha, q⟩ := h
    refine ⟨_, pss_one (ps_ost (pv 0) (pv 1)), ?_⟩
    exact ⟨y, rfl, .ref a, rfl, a, T.C_InvalidNumber, rfl, T.o_InvalidNumber, T.na_InvalidNumber_value, .inl ⟨ha, fun dx nd ne => q dx nd ne⟩⟩
theorem okE_InvalidMark___init__ (T : Tx K mg) : FnOk P w K mg base L2.CX0 lv_InvalidMark___init__ T.f_InvalidMark___init__ T.d_InvalidMark___init__ p_InvalidMark___init__ (spExI T.C_InvalidMark "value") := by
  refine T.F_InvalidMark___init__.ok sc_InvalidMark___init__ (fun vs H Q E h => ?_) (fun cdv A outer s H vs Q E hr h => ?_)
  · obtain ⟨a, y, rfl, _⟩ := h
    rfl
  · obtain ⟨a, y, rfl, ha, q⟩ := h
    refine ⟨_, pss_one (ps_ost (pv 0) (pv 1)), ?_⟩
    exact ⟨y, rfl, .ref a, rfl, a, T.C_InvalidMark, rfl, T.o_InvalidMark, T.na_InvalidMark_value, .inl ⟨ha, fun dx nd ne => q dx nd ne⟩⟩
theorem okE_InvalidText___init__ (T : Tx K mg) : FnOk P w K mg base L2.CX0 lv_InvalidText___init__ T.f_InvalidText___init__ T.d_InvalidText___init__ p_InvalidText___init__ (spExI T.C_InvalidText "value") := by
  refine T.F_InvalidText___init__.ok sc_InvalidText___init__ (fun vs H Q E h => ?_) (fun cdv A outer s H vs Q E hr h => ?_)
  · obtain ⟨a, y, rfl, _⟩ := h
    rfl
  · obtain ⟨a, y, rfl, ha, q⟩ := h
    refine ⟨_, pss_one (ps_ost (pv 0) (pv 1)), ?_⟩
    exact ⟨y, rfl, .ref a, rfl, a, T.C_InvalidText, rfl, T.o_InvalidText, T.na_InvalidText_value, .inl ⟨ha, fun dx nd ne => q dx nd ne⟩⟩
theorem okE_InvalidLength___init__ (T : Tx K mg) : FnOk P w K mg base L2.CX0 lv_InvalidLength___init__ T.f_InvalidLength___init__ T.d_InvalidLength___init__ p_InvalidLength___init__ (spExI T.C_InvalidLength "value") := by
  refine T.F_InvalidLength___init__.ok sc_InvalidLength___init__ (fun vs H Q E h => ?_) (fun cdv A outer s H vs Q E hr h => ?_)
  · obtain ⟨a, y, rfl, _⟩ := h
    rfl
  · obtain ⟨a, y, rfl, ha, q⟩ := h
    refine ⟨_, pss_one (ps_ost (pv 0) (pv 1)), ?_⟩
    exact ⟨y, rfl, .ref a, rfl, a, T.C_InvalidLength, rfl, T.o_InvalidLength, T.na_InvalidLength_value, .inl ⟨ha, fun dx nd ne => q dx nd ne⟩⟩
theorem okE_InvalidRule___init__ (T : Tx K mg) : FnOk P w K mg base L2.CX0 lv_InvalidRule___init__ T.f_InvalidRule___init__ T.d_InvalidRule___init__ p_InvalidRule___init__ (spExI T.C_InvalidRule "value") := by
  refine T.F_InvalidRule___init__.ok sc_InvalidRule___init__ (fun vs H Q E h => ?_) (fun cdv A outer s H vs Q E hr h => ?_)
  · obtain ⟨a, y, rfl, _⟩ := h
    rfl
  · obtain ⟨a, y, rfl, ha, q⟩ := h
    refine ⟨_, pss_one (ps_ost (pv 0) (pv 1)), ?_⟩
    exact ⟨y, rfl, .ref a, rfl, a, T.C_InvalidRule, rfl, T.o_InvalidRule, T.na_InvalidRule_value, .inl ⟨ha, fun dx nd ne => q dx nd ne⟩⟩
theorem okE_InvalidWidth___init__ (T : Tx K mg) : FnOk P w K mg base L2.CX0 lv_InvalidWidth___init__ T.f_InvalidWidth___init__ T.d_InvalidWidth___init__ p_InvalidWidth___init__ (spExI T.C_InvalidWidth "value") := by
  refine T.F_InvalidWidth___init__.ok sc_InvalidWidth___init__ (fun vs H Q E h => ?_) (fun cdv A outer s H vs Q E hr h => ?_)
  · obtain ⟨a, y, rfl, _⟩ := h
    rfl
  · obtain ⟨a, y, rfl, ha, q⟩ := h
    refine ⟨_, pss_one (ps_ost (pv 0) (pv 1)), ?_⟩
    exact ⟨y, rfl, .ref a, rfl, a, T.C_InvalidWidth, rfl, T.o_InvalidWidth, T.na_InvalidWidth_value, .inl ⟨ha, fun dx nd ne => q dx nd ne⟩⟩
theorem okE_InvalidPlace___init__ (T : Tx K mg) : FnOk P w K mg base L2.CX0 lv_InvalidPlace___init__ T.f_InvalidPlace___init__ T.d_InvalidPlace___init__ p_InvalidPlace___init__ (spExI T.C_InvalidPlace "value") := by
  refine T.F_InvalidPlace___init__.ok sc_InvalidPlace___init__ (fun vs H Q E h => ?_) (fun cdv A outer s H vs Q E hr h => ?_)
  · obtain ⟨a, y, rfl, _⟩ := h
    rfl
  · obtain ⟨a, y, rfl, ha, q⟩ := h
    refine ⟨_, pss_one (ps_ost (pv 0) (pv 1)), ?_⟩
    exact ⟨y, rfl, .ref a, rfl, a, T.C_InvalidPlace, rfl, T.o_InvalidPlace, T.na_InvalidPlace_value, .inl ⟨ha, fun dx nd ne => q dx nd ne⟩⟩
theorem okE_InvalidLine___init__ (T : Tx K mg) : FnOk P w K mg base L2.CX0 lv_InvalidLine___init__ T.f_InvalidLine___init__ T.d_InvalidLine___init__ p_InvalidLine___init__ (spExI T.C_InvalidLine "value") := by
  refine T.F_InvalidLine___init__.ok sc_InvalidLine___init__ (fun vs H Q E h => ?_) (fun cdv A outer s H vs Q E hr h => ?_)
  · obtain ⟨a, y, rfl, _⟩ := h
    rfl
  · obtain ⟨a, y, rfl, ha, q⟩ := h
    refine ⟨_, pss_one (ps_ost (pv 0) (pv 1)), ?_⟩
    exact ⟨y, rfl, .ref a, rfl, a, T.C_InvalidLine, rfl, T.o_InvalidLine, T.na_InvalidLine_value, .inl ⟨ha, fun dx nd ne => q dx nd ne⟩⟩
theorem okE_NotANamer___init__ (T : Tx K mg) : FnOk P w K mg base L2.CX0 lv_NotANamer___init__ T.f_NotANamer___init__ T.d_NotANamer___init__ p_NotANamer___init__ (spExI T.C_NotANamer "value") := by
  refine T.F_NotANamer___init__.ok sc_NotANamer___init__ (fun vs H Q E h => ?_) (fun cdv A outer s H vs Q E hr h => ?_)
  · obtain ⟨a, y, rfl, _⟩ := h
    rfl
  · obtain ⟨a, y, rfl, ha, q⟩ := h
    refine ⟨_, pss_one (ps_ost (pv 0) (pv 1)), ?_⟩
    exact ⟨y, rfl, .ref a, rfl, a, T.C_NotANamer, rfl, T.o_NotANamer, T.na_NotANamer_value, .inl ⟨ha, fun dx nd ne => q dx nd ne⟩⟩
theorem okE_NotAShelf___init__ (T : Tx K mg) : FnOk P w K mg base L2.CX0 lv_NotAShelf___init__ T.f_NotAShelf___init__ T.d_NotAShelf___init__ p_NotAShelf___init__ (spExI T.C_NotAShelf "value") := by
  refine T.F_NotAShelf___init__.ok sc_NotAShelf___init__ (fun vs H Q E h => ?_) (fun cdv A outer s H vs Q E hr h => ?_)
  · obtain ⟨a, y, rfl, _⟩ := h
    rfl
  · obtain ⟨a, y, rfl, ha, q⟩ := h
    refine ⟨_, pss_one (ps_ost (pv 0) (pv 1)), ?_⟩
    exact ⟨y, rfl, .ref a, rfl, a, T.C_NotAShelf, rfl, T.o_NotAShelf, T.na_NotAShelf_value, .inl ⟨ha, fun dx nd ne => q dx nd ne⟩⟩
theorem okE_InvalidRow___init__ (T : Tx K mg) : FnOk P w K mg base L2.CX0 lv_InvalidRow___init__ T.f_InvalidRow___init__ T.d_InvalidRow___init__ p_InvalidRow___init__ (spExI T.C_InvalidRow "index") := by
  refine T.F_InvalidRow___init__.ok sc_InvalidRow___init__ (fun vs H Q E h => ?_) (fun cdv A outer s H vs Q E hr h => ?_)
  · obtain ⟨a, y, rfl, _⟩ := h
    rfl
  · obtain ⟨a, y, rfl, ha, q⟩ := h
    refine ⟨_, pss_one (ps_ost (pv 0) (pv 1)), ?_⟩
    exact ⟨y, rfl, .ref a, rfl, a, T.C_InvalidRow, rfl, T.o_InvalidRow, T.na_InvalidRow_index, .inl ⟨ha, fun dx nd ne => q dx nd ne⟩⟩
theorem okE_InvalidViews___init__ (T : Tx K mg) : FnOk P w K mg base L2.CX0 lv_InvalidViews___init__ T.f_InvalidViews___init__ T.d_InvalidViews___init__ p_InvalidViews___init__ (spExI T.C_InvalidViews "index") := by
  refine T.F_InvalidViews___init__.ok sc_InvalidViews___init__ (fun vs H Q E h => ?_) (fun cdv A outer s H vs Q E hr h => ?_)
  · obtain ⟨a, y, rfl, _⟩ := h
    rfl
  · obtain ⟨a, y, rfl, ha, q⟩ := h
    refine ⟨_, pss_one (ps_ost (pv 0) (pv 1)), ?_⟩
    exact ⟨y, rfl, .ref a, rfl, a, T.C_InvalidViews, rfl, T.o_InvalidViews, T.na_InvalidViews_index, .inl ⟨ha, fun dx nd ne => q dx nd ne⟩⟩
theorem okE_InvalidTexts___init__ (T : Tx K mg) : FnOk P w K mg base L2.CX0 lv_InvalidTexts___init__ T.f_InvalidTexts___init__ T.d_InvalidTexts___init__ p_InvalidTexts___init__ (spExI T.C_InvalidTexts "index") := by
  refine T.F_InvalidTexts___init__.ok sc_InvalidTexts___init__ (fun vs H Q E h => ?_) (fun cdv A outer s H vs Q E hr h => ?_)
  · obtain ⟨a, y, rfl, _⟩ := h
    rfl
  · obtain ⟨a, y, rfl, ha, q⟩ := h
    refine ⟨_, pss_one (ps_ost (pv 0) (pv 1)), ?_⟩
    exact ⟨y, rfl, .ref a, rfl, a, T.C_InvalidTexts, rfl, T.o_InvalidTexts, T.na_InvalidTexts_index, .inl ⟨ha, fun dx nd ne => q dx nd ne⟩⟩
theorem okE_InvalidDeeds___init__ (T : Tx K mg) : FnOk P w K mg base L2.CX0 lv_InvalidDeeds___init__ T.f_InvalidDeeds___init__ T.d_InvalidDeeds___init__ p_InvalidDeeds___init__ (spExI T.C_InvalidDeeds "index") := by
  refine T.F_InvalidDeeds___init__.ok sc_InvalidDeeds___init__ (fun vs H Q E h => ?_) (fun cdv A outer s H vs Q E hr h => ?_)
  · obtain ⟨a, y, rfl, _⟩ := h
    rfl
  · obtain ⟨a, y, rfl, ha, q⟩ := h
    refine ⟨_, pss_one (ps_ost (pv 0) (pv 1)), ?_⟩
    exact ⟨y, rfl, .ref a, rfl, a, T.C_InvalidDeeds, rfl, T.o_InvalidDeeds, T.na_InvalidDeeds_index, .inl ⟨ha, fun dx nd ne => q dx nd ne⟩⟩
theorem okE_UnknownName___init__ (T : Tx K mg) : FnOk P w K mg base L2.CX0 lv_UnknownName___init__ T.f_UnknownName___init__ T.d_UnknownName___init__ p_UnknownName___init__ (spExI T.C_UnknownName "value") := by
  refine T.F_UnknownName___init__.ok sc_UnknownName___init__ (fun vs H Q E h => ?_) (fun cdv A outer s H vs Q E hr h => ?_)
  · obtain ⟨a, y, rfl, _⟩ := h
    rfl
  · obtain ⟨a, y, rfl, ha, q⟩ := h
    refine ⟨_, pss_one (ps_ostG (p := ⟨0, 0, 0, 0⟩) (pv 0) (pv 1)), ?_⟩
    exact ⟨y, rfl, .ref a, rfl, a, T.C_UnknownName, _, _, _, _, rfl, T.o_UnknownName, T.na_UnknownName_value, ha, fun dx nd ne => q dx nd ne⟩
theorem okE_TooMany___init__ (T : Tx K mg) : FnOk P w K mg base L2.CX0 lv_TooMany___init__ T.f_TooMany___init__ T.d_TooMany___init__ p_TooMany___init__ (spExI T.C_TooMany "limit") := by
  refine T.F_TooMany___init__.ok sc_TooMany___init__ (fun vs H Q E h => ?_) (fun cdv A outer s H vs Q E hr h => ?_)
  · obtain ⟨a, y, rfl, _⟩ := h
    rfl
  · obtain ⟨a, y, rfl, ha, q⟩ := h
    refine ⟨_, pss_one (ps_ostG (p := ⟨0, 0, 0, 0⟩) (pv 0) (pv 1)), ?_⟩
    exact ⟨y, rfl, .ref a, rfl, a, T.C_TooMany, _, _, _, _, rfl, T.o_TooMany, T.na_TooMany_limit, ha, fun dx nd ne => q dx nd ne⟩
def spInst (T : Tx K mg) : DC := fun ds M R => ∃ (a C : Addr) (fs : List (Str × D)) (k : Nat), ds = [.ptr a] ∧ M a = some (.xob C fs) ∧ RfX T C k ∧ k < 18 ∧ R (.int 1) M
theorem okD__law_instances (T : Tx K mg) : FnOk P w K mg base L2.CX0 lv__law_instances T.f__law_instances T.d__law_instances p__law_instances (lift (spInst T)) := by
  refine fnD T.F__law_instances sc__law_instances (fun ds M R h => ?_) (fun cdv A outer s H E hr => ?_)
  · first | (obtain ⟨rfl, _⟩ := h; rfl) | (obtain ⟨_, rfl, _⟩ := h; rfl) | (obtain ⟨_, _, rfl, _⟩ := h; rfl) | (obtain ⟨_, _, _, rfl, _⟩ := h; rfl) | (obtain ⟨_, _, _, _, rfl, _⟩ := h; rfl) | (obtain ⟨_, _, _, _, _, rfl, _⟩ := h; rfl) | (obtain ⟨_, _, _, _, _, _, rfl, _⟩ := h; rfl) | (obtain ⟨_, _, _, _, _, _, _, rfl, _⟩ := h; rfl) | (obtain ⟨_, _, _, _, _, _, _, _, rfl, _⟩ := h; rfl)
  · have hr64 := hr.units

    refine ⟨_, (pss_cons (ps_set (i := 1) sc__law_instances.nd rfl (by first | exact Or.inl rfl | exact Or.inr rfl) (pe_lst (pa_cons (pe_callB (call_isX (K := K) rfl) (by rfl) T.n_isinstance (by decide +kernel) (pa_cons (pv 0) (pa_cons (pe_gref rfl T.m_InvalidNumber) pa_nil))) (pa_cons (pe_callB (call_isX (K := K) rfl) (by rfl) T.n_isinstance (by decide +kernel) (pa_cons (pv 0) (pa_cons (pe_gref rfl T.m_InvalidMark) pa_nil))) (pa_cons (pe_callB (call_isX (K := K) rfl) (by rfl) T.n_isinstance (by decide +kernel) (pa_cons (pv 0) (pa_cons (pe_gref rfl T.m_InvalidText) pa_nil))) pa_nil)))))
        (pss_cons (ps_set (i := 1) sc__law_instances.nd rfl (by first | exact Or.inl rfl | exact Or.inr rfl) (pe_op op_addU (pv 1) (pe_lst (pa_cons (pe_callB (call_isX (K := K) rfl) (by rfl) T.n_isinstance (by decide +kernel) (pa_cons (pv 0) (pa_cons (pe_gref rfl T.m_InvalidLength) pa_nil))) (pa_cons (pe_callB (call_isX (K := K) rfl) (by rfl) T.n_isinstance (by decide +kernel) (pa_cons (pv 0) (pa_cons (pe_gref rfl T.m_InvalidRule) pa_nil))) (pa_cons (pe_callB (call_isX (K := K) rfl) (by rfl) T.n_isinstance (by decide +kernel) (pa_cons (pv 0) (pa_cons (pe_gref rfl T.m_InvalidWidth) pa_nil))) pa_nil))))))
        (pss_cons (ps_set (i := 1) sc__law_instances.nd rfl (by first | exact Or.inl rfl | exact Or.inr rfl) (pe_op op_addU (pv 1) (pe_lst (pa_cons (pe_callB (call_isX (K := K) rfl) (by rfl) T.n_isinstance (by decide +kernel) (pa_cons (pv 0) (pa_cons (pe_gref rfl T.m_InvalidPlace) pa_nil))) (pa_cons (pe_callB (call_isX (K := K) rfl) (by rfl) T.n_isinstance (by decide +kernel) (pa_cons (pv 0) (pa_cons (pe_gref rfl T.m_InvalidLine) pa_nil))) (pa_cons (pe_callB (call_isX (K := K) rfl) (by rfl) T.n_isinstance (by decide +kernel) (pa_cons (pv 0) (pa_cons (pe_gref rfl T.m_NotANamer) pa_nil))) pa_nil))))))
        (pss_cons (ps_set (i := 1) sc__law_instances.nd rfl (by first | exact Or.inl rfl | exact Or.inr rfl) (pe_op op_addU (pv 1) (pe_lst (pa_cons (pe_callB (call_isX (K := K) rfl) (by rfl) T.n_isinstance (by decide +kernel) (pa_cons (pv 0) (pa_cons (pe_gref rfl T.m_NotAShelf) pa_nil))) (pa_cons (pe_callB (call_isX (K := K) rfl) (by rfl) T.n_isinstance (by decide +kernel) (pa_cons (pv 0) (pa_cons (pe_gref rfl T.m_InvalidRow) pa_nil))) (pa_cons (pe_callB (call_isX (K := K) rfl) (by rfl) T.n_isinstance (by decide +kernel) (pa_cons (pv 0) (pa_cons (pe_gref rfl T.m_InvalidViews) pa_nil))) pa_nil))))))
        (pss_cons (ps_set (i := 1) sc__law_instances.nd rfl (by first | exact Or.inl rfl | exact Or.inr rfl) (pe_op op_addU (pv 1) (pe_lst (pa_cons (pe_callB (call_isX (K := K) rfl) (by rfl) T.n_isinstance (by decide +kernel) (pa_cons (pv 0) (pa_cons (pe_gref rfl T.m_InvalidTexts) pa_nil))) (pa_cons (pe_callB (call_isX (K := K) rfl) (by rfl) T.n_isinstance (by decide +kernel) (pa_cons (pv 0) (pa_cons (pe_gref rfl T.m_InvalidDeeds) pa_nil))) (pa_cons (pe_callB (call_isX (K := K) rfl) (by rfl) T.n_isinstance (by decide +kernel) (pa_cons (pv 0) (pa_cons (pe_gref rfl T.m_NothingToUndo) pa_nil))) pa_nil))))))
        (pss_cons (ps_set (i := 1) sc__law_instances.nd rfl (by first | exact Or.inl rfl | exact Or.inr rfl) (pe_op op_addU (pv 1) (pe_lst (pa_cons (pe_callB (call_isX (K := K) rfl) (by rfl) T.n_isinstance (by decide +kernel) (pa_cons (pv 0) (pa_cons (pe_gref rfl T.m_Busy) pa_nil))) (pa_cons (pe_callB (call_isX (K := K) rfl) (by rfl) T.n_isinstance (by decide +kernel) (pa_cons (pv 0) (pa_cons (pe_gref rfl T.m_UnknownName) pa_nil))) (pa_cons (pe_callB (call_isX (K := K) rfl) (by rfl) T.n_isinstance (by decide +kernel) (pa_cons (pv 0) (pa_cons (pe_gref rfl T.m_TooMany) pa_nil))) pa_nil))))))
        (pss_one (ps_ret (pe_bm PySem.F.plainAttrs_list PySem.F.slot_list_count PySem.F.type_list_count mt_countF (pv 1) (pa_cons pe_bl pa_nil)))))))))), ?_⟩
    refine ⟨_, inferInstance, fun ds M R h => ?_⟩
    obtain ⟨a, C, fs, k, rfl, ha, F, hk, q⟩ := h
    rw [st__law_instances]
    walk_at "dx"
    refine isx_c ha F.ex F.k0 ?_
    walk_at "dx"
    refine isx_c ha F.ex F.k1 ?_
    walk_at "dx"
    refine isx_c ha F.ex F.k2 ?_
    walk_at "dx"
    refine isx_c ha F.ex F.k3 ?_
    walk_at "dx"
    refine isx_c ha F.ex F.k4 ?_
    walk_at "dx"
    refine isx_c ha F.ex F.k5 ?_
    walk_at "dx"
    refine V.x_addL ⟨by simp [sizeLine_eq], ?_⟩
    walk_at "dx"
    refine isx_c ha F.ex F.k6 ?_
    walk_at "dx"
    refine isx_c ha F.ex F.k7 ?_
    walk_at "dx"
    refine isx_c ha F.ex F.k8 ?_
    walk_at "dx"
    refine V.x_addL ⟨by simp [sizeLine_eq], ?_⟩
    walk_at "dx"
    refine isx_c ha F.ex F.k9 ?_
    walk_at "dx"
    refine isx_c ha F.ex F.k10 ?_
    walk_at "dx"
    refine isx_c ha F.ex F.k11 ?_
    walk_at "dx"
    refine V.x_addL ⟨by simp [sizeLine_eq], ?_⟩
    walk_at "dx"
    refine isx_c ha F.ex F.k12 ?_
    walk_at "dx"
    refine isx_c ha F.ex F.k13 ?_
    walk_at "dx"
    refine isx_c ha F.ex F.k14 ?_
    walk_at "dx"
    refine V.x_addL ⟨by simp [sizeLine_eq], ?_⟩
    walk_at "dx"
    refine isx_c ha F.ex F.k15 ?_
    walk_at "dx"
    refine isx_c ha F.ex F.k16 ?_
    walk_at "dx"
    refine isx_c ha F.ex F.k17 ?_
    walk_at "dx"
    refine V.x_addL ⟨by simp [sizeLine_eq], ?_⟩
    walk_at "dx"
    refine x_cntB ?_
    walk_at "dx"
    refine ⟨rowsB k, rfl, ?_⟩
    walk_at "dx"
    refine ⟨true, rfl, ?_⟩
    walk_at "dx"
    rw [show (rowsB k).count true = 1 from (show ∀ k, k < 18 → (rowsB k).count true = 1 by decide) k hk]
    exact q
def grp (k : Nat) : Nat := if k < 14 then 0 else if k < 17 then 1 else 2
def spBases (T : Tx K mg) : DC := fun ds M R => ∃ (a C : Addr) (fs : List (Str × D)) (k : Nat), ds = [.ptr a] ∧ M a = some (.xob C fs) ∧ RfX T C k ∧ k < 18 ∧ R (.lst [.int (grp k : Nat), .int ((grp k + 3 : Nat))]) M
theorem okD__law_bases (T : Tx K mg) : FnOk P w K mg base L2.CX0 lv__law_bases T.f__law_bases T.d__law_bases p__law_bases (lift (spBases T)) := by
  refine fnD T.F__law_bases sc__law_bases (fun ds M R h => ?_) (fun cdv A outer s H E hr => ?_)
  · first | (obtain ⟨rfl, _⟩ := h; rfl) | (obtain ⟨_, rfl, _⟩ := h; rfl) | (obtain ⟨_, _, rfl, _⟩ := h; rfl) | (obtain ⟨_, _, _, rfl, _⟩ := h; rfl) | (obtain ⟨_, _, _, _, rfl, _⟩ := h; rfl) | (obtain ⟨_, _, _, _, _, rfl, _⟩ := h; rfl) | (obtain ⟨_, _, _, _, _, _, rfl, _⟩ := h; rfl) | (obtain ⟨_, _, _, _, _, _, _, rfl, _⟩ := h; rfl) | (obtain ⟨_, _, _, _, _, _, _, _, rfl, _⟩ := h; rfl)
  · have hr64 := hr.units

    refine ⟨_, (pss_cons (ps_set (i := 1) sc__law_bases.nd rfl (by first | exact Or.inl rfl | exact Or.inr rfl) (pe_lst (pa_cons (pe_callB (call_isX (K := K) rfl) (by rfl) T.n_isinstance (by decide +kernel) (pa_cons (pv 0) (pa_cons (pe_gref rfl T.m_InputError) pa_nil))) (pa_cons (pe_callB (call_isX (K := K) rfl) (by rfl) T.n_isinstance (by decide +kernel) (pa_cons (pv 0) (pa_cons (pe_gref rfl T.m_StateError) pa_nil))) (pa_cons (pe_callB (call_isX (K := K) rfl) (by rfl) T.n_isinstance (by decide +kernel) (pa_cons (pv 0) (pa_cons (pe_gref rfl T.m_SizeError) pa_nil))) pa_nil)))))
        (pss_cons (ps_set (i := 1) sc__law_bases.nd rfl (by first | exact Or.inl rfl | exact Or.inr rfl) (pe_op op_addU (pv 1) (pe_lst (pa_cons (pe_callB (call_isX (K := K) rfl) (by rfl) T.n_isinstance (by decide +kernel) (pa_cons (pv 0) (pa_cons (pe_bt "ValueError" rfl T.n_ValueError (by decide +kernel)) pa_nil))) (pa_cons (pe_callB (call_isX (K := K) rfl) (by rfl) T.n_isinstance (by decide +kernel) (pa_cons (pv 0) (pa_cons (pe_bt "LookupError" rfl T.n_LookupError (by decide +kernel)) pa_nil))) (pa_cons (pe_callB (call_isX (K := K) rfl) (by rfl) T.n_isinstance (by decide +kernel) (pa_cons (pv 0) (pa_cons (pe_bt "ArithmeticError" rfl T.n_ArithmeticError (by decide +kernel)) pa_nil))) pa_nil))))))
        (pss_one (ps_ret (pe_lc (own := [("_law_k", 2)]) rfl sc__law_bases.nd (pi_range1 rfl T.n_range (pa_cons pe_int pa_nil)) (blkOk_by (N := ["_law_e", "_law_seen", "_law_k"]) (sc := L2.defScope s__law_bases) (by decide +kernel)) (fun _ _ _ _ _ => (pg_name (i := 2) sc__law_bases.nd rfl (by first | exact Or.inl rfl | exact Or.inr rfl))) (fun _ _ _ _ _ => (pts_one (pt_val (pe_ix (ix_K (K := K) rfl) (pv 1) (pv 2) (fun _ _ => rfl))))) (fun _ _ _ _ _ => (pv 2))))))), ?_⟩
    refine ⟨_, inferInstance, fun ds M R h => ?_⟩
    obtain ⟨a, C, fs, k, rfl, ha, F, hk, q⟩ := h
    rw [st__law_bases]
    walk_at "dx"
    refine isx_c ha F.ex F.k18 ?_
    walk_at "dx"
    refine isx_c ha F.ex F.k19 ?_
    walk_at "dx"
    refine isx_c ha F.ex F.k20 ?_
    walk_at "dx"
    refine isx_t ha F.ex F.k21 ?_
    walk_at "dx"
    refine isx_t ha F.ex F.k22 ?_
    walk_at "dx"
    refine isx_t ha F.ex F.k23 ?_
    walk_at "dx"
    refine V.x_addL ⟨by simp [sizeLine_eq], ?_⟩
    walk_at "dx"
    have q2 : R (.lst (((List.range 6).filter fun i => ([decide (k < 14), decide (13 < k) && decide (k < 17), decide (k = 17), decide (k < 14), decide (13 < k) && decide (k < 17), decide (k = 17)][i]?).getD false).map fun i => D.int ((i : Nat) : Int))) M := by
      unfold grp at q
      by_cases c1 : k < 14
      · rw [if_pos c1] at q
        rw [decide_eq_true c1, decide_eq_false (show ¬ 13 < k by omega), decide_eq_false (show ¬ k = 17 by omega)]
        exact q
      · rw [if_neg c1] at q
        by_cases c2 : k < 17
        · rw [if_pos c2] at q
          rw [decide_eq_false c1, decide_eq_true (show 13 < k by omega), decide_eq_true c2, decide_eq_false (show ¬ k = 17 by omega)]
          exact q
        · rw [if_neg c2] at q
          rw [decide_eq_false c1, decide_eq_true (show 13 < k by omega), decide_eq_false c2, decide_eq_true (show k = 17 by omega)]
          exact q
    clear q
    generalize decide (k < 14) = b0 at q2 ⊢
    generalize (decide (13 < k) && decide (k < 17)) = b1 at q2 ⊢
    generalize decide (k = 17) = b2 at q2 ⊢
    refine ⟨by omega, by omega, trivial, by rw [rgD_len]; decide, ?_⟩
    refine gather_map (f := id) (p := fun d => match d with | .int i => ([b0, b1, b2, b0, b1, b2][i.toNat]?).getD false | _ => false) ?_ trivial ?_
    · intro x hx Ky Kn hy hn
      obtain ⟨i, hi, rfl⟩ := List.mem_map.mp hx
      have hi2 : i < 6 := List.mem_range.mp hi
      rw [Int.zero_add] at hy hn ⊢
      walk_at "dx"
      refine ⟨_, .bl (([b0, b1, b2, b0, b1, b2][i]?).getD false), .inl rfl, atI_nat (by
        match i, hi2 with
        | 0, _ => rfl
        | 1, _ => rfl
        | 2, _ => rfl
        | 3, _ => rfl
        | 4, _ => rfl
        | 5, _ => rfl), ?_⟩
      by_cases c : ([b0, b1, b2, b0, b1, b2][i]?).getD false = true
      · have hy := hy c
        walk_at "dx"
        rw [if_pos c]
        walk_at "dx"
        exact hy
      · have hn := hn (Bool.eq_false_iff.mpr c)
        walk_at "dx"
        rw [if_neg c]
        exact hn
    rw [List.map_id]
    unfold rgD
    rw [show (((6 : Int) - 0).toNat) = 6 from rfl, List.filter_map]
    simp only [Function.comp_def, Int.zero_add, Int.toNat_natCast]
    exact q2
end
end G
namespace G
open PySem PySem.Spec PyProof.Rows L2 U V
section
variable {P : Program} {w : World} {K : PySem.W.Frag} {mg : Str → Option Value} {base : Heap}
/-- an error of the interface that keeps d -/
def Err (T : Tx K mg) (M : Mem) (d : D) (f : Str) (lo hi : Nat) (a : Addr) : Prop := ∃ (C : Addr) (k : Nat), M a = some (.xob C [(f, d)]) ∧ RfX T C k ∧ lo ≤ k ∧ k < hi ∧ PySem.W.findIn K (.ref C) f = some none
structure Made (T : Tx K mg) (M M' : Mem) (d : D) (f : Str) (lo hi : Nat) (as : List Addr) : Prop where
  ml : Mle M M'
  all : ∀ a ∈ as, Err T M' d f lo hi a
theorem Err.mle {T : Tx K mg} {M M' : Mem} {d : D} {f : Str} {lo hi : Nat} {a : Addr} (h : Err T M d f lo hi a) (m : Mle M M') : Err T M' d f lo hi a :=
  let ⟨C, k, e, r⟩ := h
  ⟨C, k, m _ _ e, r⟩
theorem Made.nil {T : Tx K mg} {M : Mem} {d : D} {f : Str} {lo hi : Nat} : Made T M M d f lo hi [] := ⟨V.mle_refl, fun _ h => nomatch h⟩
theorem Made.add {T : Tx K mg} {M M' : Mem} {d : D} {f : Str} {lo hi k : Nat} {as : List Addr} {b C : Addr} (h : Made T M M' d f lo hi as) (hb : M' b = none) (r : RfX T C k) (n : PySem.W.findIn K (.ref C) f = some none) (h1 : lo ≤ k := by decide) (h2 : k < hi := by decide) :
    Made T M (mset M' b (.xob C [(f, d)])) d f lo hi (as ++ [b]) := by
  have m1 : Mle M' (mset M' b (.xob C [(f, d)])) := V.mle_set hb
  refine ⟨fun x mo e => m1 _ _ (h.ml _ _ e), fun a ha => ?_⟩
  rcases List.mem_append.mp ha with h3 | h3
  · exact (h.all a h3).mle m1
  · rw [List.mem_singleton] at h3
    subst h3
    exact ⟨C, k, mset_same, r, h1, h2, n⟩
def spValErr (T : Tx K mg) : DC := fun ds M R => ∃ d : D, ds = [d] ∧ ∀ (as : List Addr) (M' : Mem), as.length = 20 → Made T M M' d (Str.ofString "value") 0 14 as → R (.lst (as.map D.ptr)) M'
theorem okD__law_value_errors (T : Tx K mg) : FnOk P w K mg base L2.CX0 lv__law_value_errors T.f__law_value_errors T.d__law_value_errors p__law_value_errors (lift (spValErr T)) := by
  refine fnD T.F__law_value_errors sc__law_value_errors (fun ds M R h => ?_) (fun cdv A outer s H E hr => ?_)
  · first | (obtain ⟨rfl, _⟩ := h; rfl) | (obtain ⟨_, rfl, _⟩ := h; rfl) | (obtain ⟨_, _, rfl, _⟩ := h; rfl) | (obtain ⟨_, _, _, rfl, _⟩ := h; rfl) | (obtain ⟨_, _, _, _, rfl, _⟩ := h; rfl) | (obtain ⟨_, _, _, _, _, rfl, _⟩ := h; rfl) | (obtain ⟨_, _, _, _, _, _, rfl, _⟩ := h; rfl) | (obtain ⟨_, _, _, _, _, _, _, rfl, _⟩ := h; rfl) | (obtain ⟨_, _, _, _, _, _, _, _, rfl, _⟩ := h; rfl)
  · have hr64 := hr.units

    refine ⟨_, (pss_cons (ps_set (i := 1) sc__law_value_errors.nd rfl (by first | exact Or.inl rfl | exact Or.inr rfl) (pe_lst (pa_cons (pe_exG (oexG_of T.o_InvalidNumber) T.i_InvalidNumber T.j_InvalidNumber (okE_InvalidNumber___init__ T) (hr.mono (by decide)) T.b_InvalidNumber___init__ rfl T.m_InvalidNumber (pv 0)) (pa_cons (pe_exG (oexG_of T.o_InvalidMark) T.i_InvalidMark T.j_InvalidMark (okE_InvalidMark___init__ T) (hr.mono (by decide)) T.b_InvalidMark___init__ rfl T.m_InvalidMark (pv 0)) (pa_cons (pe_exG (oexG_of T.o_InvalidText) T.i_InvalidText T.j_InvalidText (okE_InvalidText___init__ T) (hr.mono (by decide)) T.b_InvalidText___init__ rfl T.m_InvalidText (pv 0)) (pa_cons (pe_exG (oexG_of T.o_InvalidLength) T.i_InvalidLength T.j_InvalidLength (okE_InvalidLength___init__ T) (hr.mono (by decide)) T.b_InvalidLength___init__ rfl T.m_InvalidLength (pv 0)) pa_nil))))))
        (pss_cons (ps_set (i := 1) sc__law_value_errors.nd rfl (by first | exact Or.inl rfl | exact Or.inr rfl) (pe_op op_addU (pv 1) (pe_lst (pa_cons (pe_exG (oexG_of T.o_InvalidRule) T.i_InvalidRule T.j_InvalidRule (okE_InvalidRule___init__ T) (hr.mono (by decide)) T.b_InvalidRule___init__ rfl T.m_InvalidRule (pv 0)) (pa_cons (pe_exG (oexG_of T.o_InvalidWidth) T.i_InvalidWidth T.j_InvalidWidth (okE_InvalidWidth___init__ T) (hr.mono (by decide)) T.b_InvalidWidth___init__ rfl T.m_InvalidWidth (pv 0)) (pa_cons (pe_exG (oexG_of T.o_InvalidPlace) T.i_InvalidPlace T.j_InvalidPlace (okE_InvalidPlace___init__ T) (hr.mono (by decide)) T.b_InvalidPlace___init__ rfl T.m_InvalidPlace (pv 0)) (pa_cons (pe_exG (oexG_of T.o_InvalidLine) T.i_InvalidLine T.j_InvalidLine (okE_InvalidLine___init__ T) (hr.mono (by decide)) T.b_InvalidLine___init__ rfl T.m_InvalidLine (pv 0)) pa_nil)))))))
        (pss_cons (ps_set (i := 1) sc__law_value_errors.nd rfl (by first | exact Or.inl rfl | exact Or.inr rfl) (pe_op op_addU (pv 1) (pe_lst (pa_cons (pe_exG (oexG_of T.o_NotANamer) T.i_NotANamer T.j_NotANamer (okE_NotANamer___init__ T) (hr.mono (by decide)) T.b_NotANamer___init__ rfl T.m_NotANamer (pv 0)) (pa_cons (pe_exG (oexG_of T.o_NotAShelf) T.i_NotAShelf T.j_NotAShelf (okE_NotAShelf___init__ T) (hr.mono (by decide)) T.b_NotAShelf___init__ rfl T.m_NotAShelf (pv 0)) pa_nil)))))
        (pss_cons (ps_set (i := 2) sc__law_value_errors.nd rfl (by first | exact Or.inl rfl | exact Or.inr rfl) (pe_lst (pa_cons (pe_exK (oexG_of T.o_InvalidNumber) T.i_InvalidNumber T.j_InvalidNumber (okE_InvalidNumber___init__ T) (hr.mono (by decide)) T.kb_InvalidNumber___init___0 rfl T.m_InvalidNumber (pv 0)) (pa_cons (pe_exK (oexG_of T.o_InvalidMark) T.i_InvalidMark T.j_InvalidMark (okE_InvalidMark___init__ T) (hr.mono (by decide)) T.kb_InvalidMark___init___0 rfl T.m_InvalidMark (pv 0)) (pa_cons (pe_exK (oexG_of T.o_InvalidText) T.i_InvalidText T.j_InvalidText (okE_InvalidText___init__ T) (hr.mono (by decide)) T.kb_InvalidText___init___0 rfl T.m_InvalidText (pv 0)) pa_nil)))))
        (pss_cons (ps_set (i := 2) sc__law_value_errors.nd rfl (by first | exact Or.inl rfl | exact Or.inr rfl) (pe_op op_addU (pv 2) (pe_lst (pa_cons (pe_exK (oexG_of T.o_InvalidLength) T.i_InvalidLength T.j_InvalidLength (okE_InvalidLength___init__ T) (hr.mono (by decide)) T.kb_InvalidLength___init___0 rfl T.m_InvalidLength (pv 0)) (pa_cons (pe_exK (oexG_of T.o_InvalidRule) T.i_InvalidRule T.j_InvalidRule (okE_InvalidRule___init__ T) (hr.mono (by decide)) T.kb_InvalidRule___init___0 rfl T.m_InvalidRule (pv 0)) (pa_cons (pe_exK (oexG_of T.o_InvalidWidth) T.i_InvalidWidth T.j_InvalidWidth (okE_InvalidWidth___init__ T) (hr.mono (by decide)) T.kb_InvalidWidth___init___0 rfl T.m_InvalidWidth (pv 0)) pa_nil))))))
        (pss_cons (ps_set (i := 2) sc__law_value_errors.nd rfl (by first | exact Or.inl rfl | exact Or.inr rfl) (pe_op op_addU (pv 2) (pe_lst (pa_cons (pe_exK (oexG_of T.o_InvalidPlace) T.i_InvalidPlace T.j_InvalidPlace (okE_InvalidPlace___init__ T) (hr.mono (by decide)) T.kb_InvalidPlace___init___0 rfl T.m_InvalidPlace (pv 0)) (pa_cons (pe_exK (oexG_of T.o_InvalidLine) T.i_InvalidLine T.j_InvalidLine (okE_InvalidLine___init__ T) (hr.mono (by decide)) T.kb_InvalidLine___init___0 rfl T.m_InvalidLine (pv 0)) (pa_cons (pe_exK (oexG_of T.o_NotANamer) T.i_NotANamer T.j_NotANamer (okE_NotANamer___init__ T) (hr.mono (by decide)) T.kb_NotANamer___init___0 rfl T.m_NotANamer (pv 0)) pa_nil))))))
        (pss_cons (ps_set (i := 2) sc__law_value_errors.nd rfl (by first | exact Or.inl rfl | exact Or.inr rfl) (pe_op op_addU (pv 2) (pe_lst (pa_cons (pe_exK (oexG_of T.o_NotAShelf) T.i_NotAShelf T.j_NotAShelf (okE_NotAShelf___init__ T) (hr.mono (by decide)) T.kb_NotAShelf___init___0 rfl T.m_NotAShelf (pv 0)) pa_nil))))
        (pss_one (ps_ret (pe_op op_addU (pv 1) (pv 2))))))))))), ?_⟩
    refine ⟨_, inferInstance, fun ds M R h => ?_⟩
    obtain ⟨d, rfl, q⟩ := h
    rw [st__law_value_errors]
    have A0 : Made T M M d (Str.ofString "value") 0 14 [] := Made.nil
    walk_at "dx"
    refine x_made ?_
    walk_at "dx"
    refine fun b1 n1 => ?_
    have A1 := A0.add n1 (rf_InvalidNumber T) T.na_InvalidNumber_value
    generalize mset M b1 _ = M1 at A1 ⊢
    walk_at "dx"
    refine x_made ?_
    walk_at "dx"
    refine fun b2 n2 => ?_
    have A2 := A1.add n2 (rf_InvalidMark T) T.na_InvalidMark_value
    generalize mset M1 b2 _ = M2 at A2 ⊢
    walk_at "dx"
    refine x_made ?_
    walk_at "dx"
    refine fun b3 n3 => ?_
    have A3 := A2.add n3 (rf_InvalidText T) T.na_InvalidText_value
    generalize mset M2 b3 _ = M3 at A3 ⊢
    walk_at "dx"
    refine x_made ?_
    walk_at "dx"
    refine fun b4 n4 => ?_
    have A4 := A3.add n4 (rf_InvalidLength T) T.na_InvalidLength_value
    generalize mset M3 b4 _ = M4 at A4 ⊢
    walk_at "dx"
    refine x_made ?_
    walk_at "dx"
    refine fun b5 n5 => ?_
    have A5 := A4.add n5 (rf_InvalidRule T) T.na_InvalidRule_value
    generalize mset M4 b5 _ = M5 at A5 ⊢
    walk_at "dx"
    refine x_made ?_
    walk_at "dx"
    refine fun b6 n6 => ?_
    have A6 := A5.add n6 (rf_InvalidWidth T) T.na_InvalidWidth_value
    generalize mset M5 b6 _ = M6 at A6 ⊢
    walk_at "dx"
    refine x_made ?_
    walk_at "dx"
    refine fun b7 n7 => ?_
    have A7 := A6.add n7 (rf_InvalidPlace T) T.na_InvalidPlace_value
    generalize mset M6 b7 _ = M7 at A7 ⊢
    walk_at "dx"
    refine x_made ?_
    walk_at "dx"
    refine fun b8 n8 => ?_
    have A8 := A7.add n8 (rf_InvalidLine T) T.na_InvalidLine_value
    generalize mset M7 b8 _ = M8 at A8 ⊢
    walk_at "dx"
    refine V.x_addL ⟨by simp [sizeLine_eq], ?_⟩
    walk_at "dx"
    refine x_made ?_
    walk_at "dx"
    refine fun b9 n9 => ?_
    have A9 := A8.add n9 (rf_NotANamer T) T.na_NotANamer_value
    generalize mset M8 b9 _ = M9 at A9 ⊢
    walk_at "dx"
    refine x_made ?_
    walk_at "dx"
    refine fun b10 n10 => ?_
    have A10 := A9.add n10 (rf_NotAShelf T) T.na_NotAShelf_value
    generalize mset M9 b10 _ = M10 at A10 ⊢
    walk_at "dx"
    refine V.x_addL ⟨by simp [sizeLine_eq], ?_⟩
    walk_at "dx"
    refine x_made ?_
    walk_at "dx"
    refine fun b11 n11 => ?_
    have A11 := A10.add n11 (rf_InvalidNumber T) T.na_InvalidNumber_value
    generalize mset M10 b11 _ = M11 at A11 ⊢
    walk_at "dx"
    refine x_made ?_
    walk_at "dx"
    refine fun b12 n12 => ?_
    have A12 := A11.add n12 (rf_InvalidMark T) T.na_InvalidMark_value
    generalize mset M11 b12 _ = M12 at A12 ⊢
    walk_at "dx"
    refine x_made ?_
    walk_at "dx"
    refine fun b13 n13 => ?_
    have A13 := A12.add n13 (rf_InvalidText T) T.na_InvalidText_value
    generalize mset M12 b13 _ = M13 at A13 ⊢
    walk_at "dx"
    refine x_made ?_
    walk_at "dx"
    refine fun b14 n14 => ?_
    have A14 := A13.add n14 (rf_InvalidLength T) T.na_InvalidLength_value
    generalize mset M13 b14 _ = M14 at A14 ⊢
    walk_at "dx"
    refine x_made ?_
    walk_at "dx"
    refine fun b15 n15 => ?_
    have A15 := A14.add n15 (rf_InvalidRule T) T.na_InvalidRule_value
    generalize mset M14 b15 _ = M15 at A15 ⊢
    walk_at "dx"
    refine x_made ?_
    walk_at "dx"
    refine fun b16 n16 => ?_
    have A16 := A15.add n16 (rf_InvalidWidth T) T.na_InvalidWidth_value
    generalize mset M15 b16 _ = M16 at A16 ⊢
    walk_at "dx"
    refine V.x_addL ⟨by simp [sizeLine_eq], ?_⟩
    walk_at "dx"
    refine x_made ?_
    walk_at "dx"
    refine fun b17 n17 => ?_
    have A17 := A16.add n17 (rf_InvalidPlace T) T.na_InvalidPlace_value
    generalize mset M16 b17 _ = M17 at A17 ⊢
    walk_at "dx"
    refine x_made ?_
    walk_at "dx"
    refine fun b18 n18 => ?_
    have A18 := A17.add n18 (rf_InvalidLine T) T.na_InvalidLine_value
    generalize mset M17 b18 _ = M18 at A18 ⊢
    walk_at "dx"
    refine x_made ?_
    walk_at "dx"
    refine fun b19 n19 => ?_
    have A19 := A18.add n19 (rf_NotANamer T) T.na_NotANamer_value
    generalize mset M18 b19 _ = M19 at A19 ⊢
    walk_at "dx"
    refine V.x_addL ⟨by simp [sizeLine_eq], ?_⟩
    walk_at "dx"
    refine x_made ?_
    walk_at "dx"
    refine fun b20 n20 => ?_
    have A20 := A19.add n20 (rf_NotAShelf T) T.na_NotAShelf_value
    generalize mset M19 b20 _ = M20 at A20 ⊢
    walk_at "dx"
    refine V.x_addL ⟨by simp [sizeLine_eq], ?_⟩
    walk_at "dx"
    refine V.x_addL ⟨by simp [sizeLine_eq], ?_⟩
    walk_at "dx"
    exact q [b1, b2, b3, b4, b5, b6, b7, b8, b9, b10, b11, b12, b13, b14, b15, b16, b17, b18, b19, b20] _ rfl A20
def spIndErr (T : Tx K mg) : DC := fun ds M R => ∃ d : D, ds = [d] ∧ ∀ (as : List Addr) (M' : Mem), as.length = 8 → Made T M M' d (Str.ofString "index") 0 14 as → R (.lst (as.map D.ptr)) M'
theorem okD__law_index_errors (T : Tx K mg) : FnOk P w K mg base L2.CX0 lv__law_index_errors T.f__law_index_errors T.d__law_index_errors p__law_index_errors (lift (spIndErr T)) := by
  refine fnD T.F__law_index_errors sc__law_index_errors (fun ds M R h => ?_) (fun cdv A outer s H E hr => ?_)
  · first | (obtain ⟨rfl, _⟩ := h; rfl) | (obtain ⟨_, rfl, _⟩ := h; rfl) | (obtain ⟨_, _, rfl, _⟩ := h; rfl) | (obtain ⟨_, _, _, rfl, _⟩ := h; rfl) | (obtain ⟨_, _, _, _, rfl, _⟩ := h; rfl) | (obtain ⟨_, _, _, _, _, rfl, _⟩ := h; rfl) | (obtain ⟨_, _, _, _, _, _, rfl, _⟩ := h; rfl) | (obtain ⟨_, _, _, _, _, _, _, rfl, _⟩ := h; rfl) | (obtain ⟨_, _, _, _, _, _, _, _, rfl, _⟩ := h; rfl)
  · have hr64 := hr.units

    refine ⟨_, (pss_cons (ps_set (i := 1) sc__law_index_errors.nd rfl (by first | exact Or.inl rfl | exact Or.inr rfl) (pe_lst (pa_cons (pe_exG (oexG_of T.o_InvalidRow) T.i_InvalidRow T.j_InvalidRow (okE_InvalidRow___init__ T) (hr.mono (by decide)) T.b_InvalidRow___init__ rfl T.m_InvalidRow (pv 0)) (pa_cons (pe_exG (oexG_of T.o_InvalidViews) T.i_InvalidViews T.j_InvalidViews (okE_InvalidViews___init__ T) (hr.mono (by decide)) T.b_InvalidViews___init__ rfl T.m_InvalidViews (pv 0)) (pa_cons (pe_exG (oexG_of T.o_InvalidTexts) T.i_InvalidTexts T.j_InvalidTexts (okE_InvalidTexts___init__ T) (hr.mono (by decide)) T.b_InvalidTexts___init__ rfl T.m_InvalidTexts (pv 0)) (pa_cons (pe_exG (oexG_of T.o_InvalidDeeds) T.i_InvalidDeeds T.j_InvalidDeeds (okE_InvalidDeeds___init__ T) (hr.mono (by decide)) T.b_InvalidDeeds___init__ rfl T.m_InvalidDeeds (pv 0)) pa_nil))))))
        (pss_cons (ps_set (i := 2) sc__law_index_errors.nd rfl (by first | exact Or.inl rfl | exact Or.inr rfl) (pe_lst (pa_cons (pe_exK (oexG_of T.o_InvalidRow) T.i_InvalidRow T.j_InvalidRow (okE_InvalidRow___init__ T) (hr.mono (by decide)) T.kb_InvalidRow___init___0 rfl T.m_InvalidRow (pv 0)) (pa_cons (pe_exK (oexG_of T.o_InvalidViews) T.i_InvalidViews T.j_InvalidViews (okE_InvalidViews___init__ T) (hr.mono (by decide)) T.kb_InvalidViews___init___0 rfl T.m_InvalidViews (pv 0)) (pa_cons (pe_exK (oexG_of T.o_InvalidTexts) T.i_InvalidTexts T.j_InvalidTexts (okE_InvalidTexts___init__ T) (hr.mono (by decide)) T.kb_InvalidTexts___init___0 rfl T.m_InvalidTexts (pv 0)) pa_nil)))))
        (pss_cons (ps_set (i := 2) sc__law_index_errors.nd rfl (by first | exact Or.inl rfl | exact Or.inr rfl) (pe_op op_addU (pv 2) (pe_lst (pa_cons (pe_exK (oexG_of T.o_InvalidDeeds) T.i_InvalidDeeds T.j_InvalidDeeds (okE_InvalidDeeds___init__ T) (hr.mono (by decide)) T.kb_InvalidDeeds___init___0 rfl T.m_InvalidDeeds (pv 0)) pa_nil))))
        (pss_one (ps_ret (pe_op op_addU (pv 1) (pv 2))))))), ?_⟩
    refine ⟨_, inferInstance, fun ds M R h => ?_⟩
    obtain ⟨d, rfl, q⟩ := h
    rw [st__law_index_errors]
    have A0 : Made T M M d (Str.ofString "index") 0 14 [] := Made.nil
    walk_at "dx"
    refine x_made ?_
    walk_at "dx"
    refine fun b1 n1 => ?_
    have A1 := A0.add n1 (rf_InvalidRow T) T.na_InvalidRow_index
    generalize mset M b1 _ = M1 at A1 ⊢
    walk_at "dx"
    refine x_made ?_
    walk_at "dx"
    refine fun b2 n2 => ?_
    have A2 := A1.add n2 (rf_InvalidViews T) T.na_InvalidViews_index
    generalize mset M1 b2 _ = M2 at A2 ⊢
    walk_at "dx"
    refine x_made ?_
    walk_at "dx"
    refine fun b3 n3 => ?_
    have A3 := A2.add n3 (rf_InvalidTexts T) T.na_InvalidTexts_index
    generalize mset M2 b3 _ = M3 at A3 ⊢
    walk_at "dx"
    refine x_made ?_
    walk_at "dx"
    refine fun b4 n4 => ?_
    have A4 := A3.add n4 (rf_InvalidDeeds T) T.na_InvalidDeeds_index
    generalize mset M3 b4 _ = M4 at A4 ⊢
    walk_at "dx"
    refine x_made ?_
    walk_at "dx"
    refine fun b5 n5 => ?_
    have A5 := A4.add n5 (rf_InvalidRow T) T.na_InvalidRow_index
    generalize mset M4 b5 _ = M5 at A5 ⊢
    walk_at "dx"
    refine x_made ?_
    walk_at "dx"
    refine fun b6 n6 => ?_
    have A6 := A5.add n6 (rf_InvalidViews T) T.na_InvalidViews_index
    generalize mset M5 b6 _ = M6 at A6 ⊢
    walk_at "dx"
    refine x_made ?_
    walk_at "dx"
    refine fun b7 n7 => ?_
    have A7 := A6.add n7 (rf_InvalidTexts T) T.na_InvalidTexts_index
    generalize mset M6 b7 _ = M7 at A7 ⊢
    walk_at "dx"
    refine x_made ?_
    walk_at "dx"
    refine fun b8 n8 => ?_
    have A8 := A7.add n8 (rf_InvalidDeeds T) T.na_InvalidDeeds_index
    generalize mset M7 b8 _ = M8 at A8 ⊢
    walk_at "dx"
    refine V.x_addL ⟨by simp [sizeLine_eq], ?_⟩
    walk_at "dx"
    refine V.x_addL ⟨by simp [sizeLine_eq], ?_⟩
    walk_at "dx"
    exact q [b1, b2, b3, b4, b5, b6, b7, b8] _ rfl A8
end
end G
namespace G
open PySem PySem.Spec PyProof.Rows L2 U V
section
variable {P : Program} {w : World} {K : PySem.W.Frag} {mg : Str → Option Value} {base : Heap}
def spRightS : DC := fun ds M R => ∃ p : Addr, ds = [potD p] ∧ M sysModules = some .sys ∧ R (.bl true) M
set_option maxHeartbeats 40000000
theorem xf_err {T : Tx K mg} {M : Mem} {d : D} {f : Str} {lo hi : Nat} {a : Addr} {R : QD} (h : Err T M d f lo hi a) (q : R d M) : ∃ (b C : Addr) (fs : List (Str × D)) (y : D), D.ptr a = .ptr b ∧ M b = some (.xob C fs) ∧ XfC K C ∧ PySem.W.findIn K (.ref C) f = some none ∧ fs.lookup f = some y ∧ R y M := by
  obtain ⟨C, k, e, F, _, _, n⟩ := h
  exact ⟨a, C, _, d, rfl, e, F.xf, n, by simp [List.lookup], q⟩
theorem ne_selfLs {xs : List D} {M : Mem} {R : QD} (E : EqOk (.lst xs)) (q : R (.bl false) M) : rNe1 (.lst xs) (.lst xs) M R := by
  show EqOk (.lst xs) ∧ EqOk (.lst xs) ∧ R (.bl (!D.eqb (.lst xs) (.lst xs))) M
  rw [eqb_refl E]
  exact ⟨E, E, q⟩
/-- an error of group n -/
def InG (T : Tx K mg) (M : Mem) (n : Nat) (a : Addr) : Prop := ∃ (C : Addr) (fs : List (Str × D)) (k : Nat), M a = some (.xob C fs) ∧ RfX T C k ∧ k < 18 ∧ grp k = n
theorem eqok_g (n : Nat) (hn : n < 3) : EqOk (.lst [.int (n : Nat), .int ((n + 3 : Nat))]) := EqOk.of (okPs.cons (okP.int (by omega)) (okPs.cons (okP.int (by omega)) (okPs.nil 0 0))).list (by decide)
theorem okD__law_right (T : Tx K mg) : FnG P w K mg base lv__law_right T.f__law_right T.d__law_right p__law_right (lift (spRightS)) := by
  refine fnDX T.F__law_right sc__law_right (fun ds M R h => ?_) (fun cdv A outer s H E hr hgd => ?_)
  · first | (obtain ⟨rfl, _⟩ := h; rfl) | (obtain ⟨_, rfl, _⟩ := h; rfl) | (obtain ⟨_, _, rfl, _⟩ := h; rfl) | (obtain ⟨_, _, _, rfl, _⟩ := h; rfl) | (obtain ⟨_, _, _, _, rfl, _⟩ := h; rfl) | (obtain ⟨_, _, _, _, _, rfl, _⟩ := h; rfl) | (obtain ⟨_, _, _, _, _, _, rfl, _⟩ := h; rfl) | (obtain ⟨_, _, _, _, _, _, _, rfl, _⟩ := h; rfl) | (obtain ⟨_, _, _, _, _, _, _, _, rfl, _⟩ := h; rfl)
  · have hr64 := hr.units

    refine ⟨_, (pss_cons (ps_set (i := 1) sc__law_right.nd rfl (by first | exact Or.inl rfl | exact Or.inr rfl) (pe_call (okD__law_one_of T) (hr.mono (by decide)) rfl T.m__law_one_of T.F__law_one_of.kp T.b__law_one_of .nil pass0 (pa_cons (pv 0) (pa_cons (pe_lst (pa_cons pe_non (pa_cons pe_int (pa_cons pe_bl (pa_cons pe_str (pa_cons (pe_tup (pa_cons pe_int (pa_cons pe_str pa_nil))) (pa_cons (pe_lst (pa_cons pe_int pa_nil)) (pa_cons (show PE _ _ tDNewE from pe_dnewK) (pa_cons (pe_op op_pow pe_int pe_int) (pa_cons (pe_tup pa_nil) (pa_cons (pe_un un_neg pe_int) pa_nil))))))))))) pa_nil))))
        (pss_cons (ps_par (i := 2) (j := 3) rfl sc__law_right.nd rfl rfl (by decide) rfl rfl (pa_cons (pe_call (okD__law_value_errors T) (hr.mono (by decide)) rfl T.m__law_value_errors T.F__law_value_errors.kp T.b__law_value_errors .nil pass0 (pa_cons (pv 1) pa_nil)) (pa_cons (pe_call (okD__law_index_errors T) (hr.mono (by decide)) rfl T.m__law_index_errors T.F__law_index_errors.kp T.b__law_index_errors .nil pass0 (pa_cons (pv 1) pa_nil)) pa_nil)) (by rfl))
        (pss_cons (ps_par (i := 4) (j := 5) rfl sc__law_right.nd rfl rfl (by decide) rfl rfl (pa_cons (pe_lst (pa_cons (pe_exG T.o_UnknownName T.i_UnknownName T.j_UnknownName (okE_UnknownName___init__ T) (hr.mono (by decide)) T.b_UnknownName___init__ rfl T.m_UnknownName (pv 1)) (pa_cons (pe_exK T.o_UnknownName T.i_UnknownName T.j_UnknownName (okE_UnknownName___init__ T) (hr.mono (by decide)) T.kb_UnknownName___init___0 rfl T.m_UnknownName (pv 1)) pa_nil))) (pa_cons (pe_lst (pa_cons (pe_ex0 PySem.F.excBase_LookupError T.q_NothingToUndo T.m_NothingToUndo T.kq_NothingToUndo T.bq_NothingToUndo T.tq_NothingToUndo rfl) (pa_cons (pe_ex0 PySem.F.excBase_LookupError T.q_Busy T.m_Busy T.kq_Busy T.bq_Busy T.tq_Busy rfl) pa_nil))) pa_nil)) (by rfl))
        (pss_cons (ps_set (i := 6) sc__law_right.nd rfl (by first | exact Or.inl rfl | exact Or.inr rfl) (pe_lst (pa_cons (pe_exG T.o_TooMany T.i_TooMany T.j_TooMany (okE_TooMany___init__ T) (hr.mono (by decide)) T.b_TooMany___init__ rfl T.m_TooMany (pv 1)) (pa_cons (pe_exK T.o_TooMany T.i_TooMany T.j_TooMany (okE_TooMany___init__ T) (hr.mono (by decide)) T.kb_TooMany___init___0 rfl T.m_TooMany (pv 1)) pa_nil))))
        (pss_cons (ps_set (i := 7) sc__law_right.nd rfl (by first | exact Or.inl rfl | exact Or.inr rfl) (pe_op op_addU (pe_op op_addU (pe_lc (own := [("_law_e", 11)]) rfl sc__law_right.nd (pi_listK (K := K) rfl (pe_op op_addU (pv 2) (pv 4))) (blkOk_by (N := ["_law_pot_here", "_law_stuff", "_law_values", "_law_spots", "_law_named", "_law_states", "_law_limits_here", "_law_held", "_law_group", "_law_due", "_law_told", "_law_e"]) (sc := L2.defScope s__law_right) (by decide +kernel)) (fun _ _ _ _ _ => (pg_name (i := 11) sc__law_right.nd rfl (by first | exact Or.inl rfl | exact Or.inr rfl))) (fun _ _ _ _ _ => pts_nil) (fun _ _ _ _ _ => (pe_xfT (K := K) rfl (pv 11)))) (pe_lc (own := [("_law_e", 11)]) rfl sc__law_right.nd (pi_listK (K := K) rfl (pv 3)) (blkOk_by (N := ["_law_pot_here", "_law_stuff", "_law_values", "_law_spots", "_law_named", "_law_states", "_law_limits_here", "_law_held", "_law_group", "_law_due", "_law_told", "_law_e"]) (sc := L2.defScope s__law_right) (by decide +kernel)) (fun _ _ _ _ _ => (pg_name (i := 11) sc__law_right.nd rfl (by first | exact Or.inl rfl | exact Or.inr rfl))) (fun _ _ _ _ _ => pts_nil) (fun _ _ _ _ _ => (pe_xfT (K := K) rfl (pv 11))))) (pe_lc (own := [("_law_e", 11)]) rfl sc__law_right.nd (pi_listK (K := K) rfl (pv 6)) (blkOk_by (N := ["_law_pot_here", "_law_stuff", "_law_values", "_law_spots", "_law_named", "_law_states", "_law_limits_here", "_law_held", "_law_group", "_law_due", "_law_told", "_law_e"]) (sc := L2.defScope s__law_right) (by decide +kernel)) (fun _ _ _ _ _ => (pg_name (i := 11) sc__law_right.nd rfl (by first | exact Or.inl rfl | exact Or.inr rfl))) (fun _ _ _ _ _ => pts_nil) (fun _ _ _ _ _ => (pe_xfT (K := K) rfl (pv 11))))))
        (pss_cons (ps_if (PW.pt (pw_or (pt_cmpR (op_neA (K := K) rfl hr64) (pe_callB (call_reprQ (K := K) rfl hgd hr64) (by rfl) T.n_repr (by decide +kernel) (pa_cons (pv 7) pa_nil)) (pe_callB (call_reprQ (K := K) rfl hgd hr64) (by rfl) T.n_repr (by decide +kernel) (pa_cons (pe_op op_rep (pe_lst (pa_cons (pv 1) pa_nil)) (pe_callB (call_lenK (K := K) rfl) (by rfl) T.n_len (by decide +kernel) (pa_cons (pv 7) pa_nil))) pa_nil)) (nomark _)) (pw_or1 (pt_cmpR (op_neA (K := K) rfl hr64) (pe_lst (pa_cons (pe_callB (call_lenK (K := K) rfl) (by rfl) T.n_len (by decide +kernel) (pa_cons (pv 2) pa_nil)) (pa_cons (pe_callB (call_lenK (K := K) rfl) (by rfl) T.n_len (by decide +kernel) (pa_cons (pv 3) pa_nil)) pa_nil))) (pe_lst (pa_cons pe_int (pa_cons pe_int pa_nil))) (nomark _))))) (pss_one (ps_ret pe_bl)) pss_nil)
        (pss_cons (ps_for PassesOwn.never rfl (pi_listK (K := K) rfl (pe_lst (pa_cons (pe_tup (pa_cons (pe_op op_addU (pv 2) (pv 3)) (pa_cons (pe_lst (pa_cons pe_int (pa_cons pe_int pa_nil))) pa_nil))) (pa_cons (pe_tup (pa_cons (pe_op op_addU (pv 4) (pv 5)) (pa_cons (pe_lst (pa_cons pe_int (pa_cons pe_int pa_nil))) pa_nil))) (pa_cons (pe_tup (pa_cons (pv 6) (pa_cons (pe_lst (pa_cons pe_int (pa_cons pe_int pa_nil))) pa_nil))) pa_nil))))) (pg_tupK (K := K) (n := 2) rfl rfl (pgs_cons (pg_name (i := 8) sc__law_right.nd rfl (by first | exact Or.inl rfl | exact Or.inr rfl)) (pgs_cons (pg_name (i := 9) sc__law_right.nd rfl (by first | exact Or.inl rfl | exact Or.inr rfl)) pgs_nil))) (pss_one (ps_if (pt_not (pt_val (pe_callB (cr_allK (K := K) rfl rfl) (by rfl) T.n_all (by decide +kernel) (pa_cons (pe_lc (own := [("_law_e", 11)]) rfl sc__law_right.nd (pi_listK (K := K) rfl (pv 8)) (blkOk_by (N := ["_law_pot_here", "_law_stuff", "_law_values", "_law_spots", "_law_named", "_law_states", "_law_limits_here", "_law_held", "_law_group", "_law_due", "_law_told", "_law_e"]) (sc := L2.defScope s__law_right) (by decide +kernel)) (fun _ _ _ _ _ => (pg_name (i := 11) sc__law_right.nd rfl (by first | exact Or.inl rfl | exact Or.inr rfl))) (fun _ _ _ _ _ => pts_nil) (fun _ _ _ _ _ => (pe_and (pe_cmpR (op_eqA (K := K) rfl hr64) (pe_call (okD__law_bases T) (hr.mono (by decide)) rfl T.m__law_bases T.F__law_bases.kp T.b__law_bases .nil pass0 (pa_cons (pv 11) pa_nil)) (pv 9) (nomark _)) (pe_one (pe_cmpR (op_eqA (K := K) rfl hr64) (pe_call (okD__law_instances T) (hr.mono (by decide)) rfl T.m__law_instances T.F__law_instances.kp T.b__law_instances .nil pass0 (pa_cons (pv 11) pa_nil)) pe_int (nomark _)))))) pa_nil)))) (pss_one (ps_ret pe_bl)) pss_nil)))
        (pss_cons (ps_set (i := 10) sc__law_right.nd rfl (by first | exact Or.inl rfl | exact Or.inr rfl) (pe_lst (pa_cons (C8.pe_gc rfl T.k_MOST_SIGNS) (pa_cons (C8.pe_gc rfl T.k_MOST_MARK) (pa_cons (C8.pe_gc rfl T.k_MOST_ROW) (pa_cons (C8.pe_gc rfl T.k_MOST_VIEWS) (pa_cons (C8.pe_gc rfl T.k_MOST_TEXT) (pa_cons (C8.pe_gc rfl T.k_MOST_LENGTH) (pa_cons (C8.pe_gc rfl T.k_MOST_LISTED) (pa_cons (C8.pe_gc rfl T.k_MOST_SHELVED) pa_nil))))))))))
        (pss_one (ps_ret (pe_cmpR (op_eqA (K := K) rfl hr64) (pv 10) (pe_lst (pa_cons pe_int (pa_cons pe_int (pa_cons pe_int (pa_cons pe_int (pa_cons pe_int (pa_cons pe_int (pa_cons pe_int (pa_cons pe_int pa_nil))))))))) (nomark _)))))))))))), ?_⟩
    refine ⟨_, inferInstance, fun ds M R h => ?_⟩
    obtain ⟨p, rfl, hs, q⟩ := h
    rw [st__law_right]
    walk_at "dx"
    refine fun e0 => ?_
    walk_at "dx"
    refine ⟨10, 19, rfl, rfl, cpow19, ?_⟩
    walk_at "dx"
    refine ⟨p, _, rfl, .inl ⟨_, .inl rfl, by simp, by simp, fun d hd => ?_⟩⟩
    walk_at "dx"
    refine ⟨d, rfl, fun as1 M1 l1 A1 => ?_⟩
    walk_at "dx"
    refine ⟨d, rfl, fun as2 M2 l2 A2 => ?_⟩
    walk_at "dx"
    refine x_made ?_
    walk_at "dx"
    refine fun b1 n1 => ?_
    have B1 : Made T M2 _ d (Str.ofString "value") 14 17 ([] ++ [b1]) := Made.nil.add n1 (rf_UnknownName T) T.na_UnknownName_value
    generalize mset M2 b1 _ = M3 at B1 ⊢
    walk_at "dx"
    refine x_made ?_
    walk_at "dx"
    refine fun b2 n2 => ?_
    have B2 := B1.add n2 (rf_UnknownName T) T.na_UnknownName_value
    generalize mset M3 b2 _ = M4 at B2 ⊢
    walk_at "dx"
    refine x_made0 ?_
    refine fun b3 n3 => ?_
    have h3 : mset M4 b3 (.xob T.C_NothingToUndo []) b3 = some (.xob T.C_NothingToUndo []) := mset_same
    have m3 : Mle M4 (mset M4 b3 (.xob T.C_NothingToUndo [])) := V.mle_set n3
    generalize mset M4 b3 _ = M5 at h3 m3 ⊢
    walk_at "dx"
    refine x_made0 ?_
    refine fun b4 n4 => ?_
    have h4 : mset M5 b4 (.xob T.C_Busy []) b4 = some (.xob T.C_Busy []) := mset_same
    have m4 : Mle M5 (mset M5 b4 (.xob T.C_Busy [])) := V.mle_set n4
    generalize mset M5 b4 _ = M6 at h4 m4 ⊢
    walk_at "dx"
    refine x_made ?_
    walk_at "dx"
    refine fun b5 n5 => ?_
    have C1 : Made T M6 _ d (Str.ofString "limit") 17 18 ([] ++ [b5]) := Made.nil.add n5 (rf_TooMany T) T.na_TooMany_limit
    generalize mset M6 b5 _ = M7 at C1 ⊢
    walk_at "dx"
    refine x_made ?_
    walk_at "dx"
    refine fun b6 n6 => ?_
    have C2 := C1.add n6 (rf_TooMany T) T.na_TooMany_limit
    generalize mset M7 b6 _ = M8 at C2 ⊢
    have k68 : Mle M6 M8 := C2.ml
    have k58 : Mle M5 M8 := fun x mo e => k68 _ _ (m4 _ _ e)
    have k48 : Mle M4 M8 := fun x mo e => k58 _ _ (m3 _ _ e)
    have k28 : Mle M2 M8 := fun x mo e => k48 _ _ (B2.ml _ _ e)
    have k18 : Mle M1 M8 := fun x mo e => k28 _ _ (A2.ml _ _ e)
    have m08 : Mle M M8 := fun x mo e => k18 _ _ (A1.ml _ _ e)
    have g1 : ∀ a ∈ as1, Err T M8 d (Str.ofString "value") 0 14 a := fun a h => (A1.all a h).mle k18
    have g2 : ∀ a ∈ as2, Err T M8 d (Str.ofString "index") 0 14 a := fun a h => (A2.all a h).mle k28
    have g3 : ∀ a ∈ [b1, b2], Err T M8 d (Str.ofString "value") 14 17 a := fun a h => (B2.all a h).mle k48
    have g4 : ∀ a ∈ [b5, b6], Err T M8 d (Str.ofString "limit") 17 18 a := fun a h => C2.all a h
    have g5 : M8 b3 = some (.xob T.C_NothingToUndo []) := k58 _ _ h3
    have g6 : M8 b4 = some (.xob T.C_Busy []) := k68 _ _ h4
    have hs8 : M8 sysModules = some .sys := m08 _ _ hs
    clear A1 A2 B1 B2 C1 C2 h3 h4 m3 m4 k68 k58 k48 k28 k18 n1 n2 n3 n4 n5 n6
    walk_at "dx"
    refine V.x_addL ⟨by simp [sizeLine_eq]; omega, ?_⟩
    walk_at "dx"
    refine ⟨by simp; omega, ?_⟩
    refine gather_all (f := fun _ => d) ?_ trivial ?_
    · intro x hx Ky hy
      walk_at "dx"
      refine x_xf ?_
      walk_at "dx"
      rcases List.mem_append.mp hx with h | h
      · obtain ⟨a, ha, rfl⟩ := List.mem_map.mp h
        exact xf_err (g1 a ha) hy
      · obtain ⟨a, ha, rfl⟩ := List.mem_map.mp (show x ∈ [b1, b2].map D.ptr from h)
        exact xf_err (g3 a ha) hy
    walk_at "dx"
    refine ⟨by simp; omega, ?_⟩
    refine gather_all (f := fun _ => d) ?_ trivial ?_
    · intro x hx Ky hy
      walk_at "dx"
      refine x_xf ?_
      walk_at "dx"
      obtain ⟨a, ha, rfl⟩ := List.mem_map.mp hx
      exact xf_err (g2 a ha) hy
    walk_at "dx"
    refine V.x_addL ⟨by simp [sizeLine_eq]; omega, ?_⟩
    walk_at "dx"
    refine ⟨by simp, ?_⟩
    refine gather_all (f := fun _ => d) ?_ trivial ?_
    · intro x hx Ky hy
      walk_at "dx"
      refine x_xf ?_
      walk_at "dx"
      obtain ⟨a, ha, rfl⟩ := List.mem_map.mp (show x ∈ [b5, b6].map D.ptr from hx)
      exact xf_err (g4 a ha) hy
    walk_at "dx"
    refine V.x_addL ⟨by simp [sizeLine_eq]; omega, ?_⟩
    walk_at "dx"
    have od : okQ 100 2 d := by
      have i2 : ∀ i : Int, i.natAbs < 2 ^ 70 → okQ 70 1 (.int i) := fun i h => (okQ.int h).mono (Nat.le_refl _) (by decide)
      have z1 : ∀ z : Str, (∀ c ∈ cd z, c < 0x110000) → (cd z).length ≤ 1 → okQ 1 1 (.str z) := fun z h h2 => (okQ.str h h2).mono (Nat.le_refl _) (by decide)
      simp only [List.mem_cons, List.not_mem_nil, or_false] at hd
      rcases hd with rfl | rfl | rfl | rfl | rfl | rfl | rfl | rfl | rfl | rfl
      · exact okQ.non.mono (by decide) (by decide)
      · exact (i2 0 (by decide)).mono (by decide) (by decide)
      · exact (okQ.bl false).mono (by decide) (by decide)
      · exact (z1 _ (by decide +kernel) (by decide +kernel)).mono (by decide) (by decide)
      · exact (okQs.cons (i2 2 (by decide)) (okQs.cons (z1 _ (by decide +kernel) (by decide +kernel)) (okQs.nil 0 1))).tuple.mono (by decide) (by decide)
      · exact (okQs.cons (i2 3 (by decide)) (okQs.nil 0 1)).list.mono (by decide) (by decide)
      · exact (okQ.emp e0).mono (by decide) (by decide)
      · exact (i2 (10 ^ 19) (by decide)).mono (by decide) (by decide)
      · exact (okQs.nil 0 1).tuple.mono (by decide) (by decide)
      · exact (i2 (-7) (by decide)).mono (by decide) (by decide)
    have er : List.map (fun _ => d) (List.map D.ptr as1 ++ [D.ptr b1, D.ptr b2]) ++ List.map (fun _ => d) (List.map D.ptr as2) ++ List.map (fun _ => d) [D.ptr b5, D.ptr b6] = List.replicate 32 d := by
      rw [List.map_const', List.map_const', List.map_const', List.length_append, List.length_map, List.length_map, l1, l2]
      rfl
    rw [er]
    obtain ⟨pp, o⟩ := ((okQs.all (ds := List.replicate 32 d) fun x hx => by rw [(List.mem_replicate.mp hx).2]; exact od).list).r (K := K)
    rw [List.length_replicate] at o
    refine reprR o hs8 ?_
    walk_at "dx"
    rw [List.length_replicate]
    refine ⟨[d], ((32 : Nat) : Int), .inl rfl, rfl, by decide, by decide, by simp [sizeLine_eq], ?_⟩
    walk_at "dx"
    rw [show (List.replicate ((32 : Nat) : Int).toNat [d]).flatten = List.replicate 32 d from rfl]
    refine reprR o hs8 ?_
    walk_at "dx"
    rw [decide_eq_true rfl]
    walk_at "dx"
    rw [List.length_map, List.length_map, l1, l2]
    refine ne_selfLs (xs := [.int 20, .int 8]) (EqOk.of (okPs.cons (okP.int (by decide)) (okPs.cons (okP.int (by decide)) (okPs.nil 0 0))).list (by decide)) ?_
    walk_at "dx"
    refine V.x_addL ⟨by simp [sizeLine_eq]; omega, ?_⟩
    walk_at "dx"
    refine V.x_addL ⟨by simp [sizeLine_eq], ?_⟩
    walk_at "dx"
    have gall : ∀ (n : Nat) (as : List Addr) (v0 v1 v2 v3 v4 v5 v6 v7 v8 v10 v11 : Option D) (Q : QD), n < 3 → (∀ a ∈ as, InG T M8 n a) → Q (.lst ((List.replicate as.length true).map D.bl)) M8 →
        dGather (fun _ => True) (dgN 11) dYes (dAndV (dOp rEq1 (dCall (spBases T) (dCons (dVar 11) dNil)) (dVar 9)) (dOp rEq1 (dCall (spInst T) (dCons (dVar 11) dNil)) (dC (D.int 1)))) (List.map (fun x => x.snd) [(Str.ofString "_law_e", 11)]) [v0, v1, v2, v3, v4, v5, v6, v7, v8, some (.lst [.int (n : Nat), .int ((n + 3 : Nat))]), v10, v11] Q (as.map D.ptr) [] M8 := by
      intro n as v0 v1 v2 v3 v4 v5 v6 v7 v8 v10 v11 Q hn hg hQ
      refine gather_all (f := fun _ => .bl true) ?_ trivial ?_
      · intro x hx Ky hy
        obtain ⟨a, ha, rfl⟩ := List.mem_map.mp hx
        obtain ⟨C, fs, k, e, F, hk, hgr⟩ := hg a ha
        walk_at "dx"
        refine ⟨a, C, fs, k, rfl, e, F, hk, ?_⟩
        rw [hgr]
        walk_at "dx"
        refine V.eq_selfLs (eqok_g n hn) ?_
        walk_at "dx"
        refine ⟨a, C, fs, k, rfl, e, F, hk, ?_⟩
        walk_at "dx"
        exact hy
      · rw [List.map_const', List.length_map, ← List.map_replicate]
        exact hQ
    have q1 : ∀ a ∈ as1 ++ as2, InG T M8 0 a := fun a ha => by
      rcases List.mem_append.mp ha with h | h
      · obtain ⟨C, k, e, F, _, h2, _⟩ := g1 a h
        exact ⟨C, _, k, e, F, by omega, if_pos h2⟩
      · obtain ⟨C, k, e, F, _, h2, _⟩ := g2 a h
        exact ⟨C, _, k, e, F, by omega, if_pos h2⟩
    have q2 : ∀ a ∈ [b1, b2, b3, b4], InG T M8 1 a := fun a ha => by
      have u : ∀ a ∈ [b1, b2], InG T M8 1 a := fun a h => by
        obtain ⟨C, k, e, F, h1, h2, _⟩ := g3 a h
        exact ⟨C, _, k, e, F, by omega, (if_neg (by omega)).trans (if_pos h2)⟩
      simp only [List.mem_cons, List.not_mem_nil, or_false] at ha
      rcases ha with rfl | rfl | rfl | rfl
      · exact u _ (by simp)
      · exact u _ (by simp)
      · exact ⟨_, _, 14, g5, rf_NothingToUndo T, by decide, rfl⟩
      · exact ⟨_, _, 15, g6, rf_Busy T, by decide, rfl⟩
    have q3 : ∀ a ∈ [b5, b6], InG T M8 2 a := fun a h => by
      obtain ⟨C, k, e, F, h1, h2, _⟩ := g4 a h
      exact ⟨C, _, k, e, F, by omega, (if_neg (by omega)).trans (if_neg (by omega))⟩
    refine ⟨by simp; omega, ?_⟩
    rw [← List.map_append]
    refine gall 0 _ _ _ _ _ _ _ _ _ _ _ _ _ (by decide) q1 ?_
    walk_at "dx"
    rw [show ∀ n, (List.replicate n true).all id = true from fun n => by simp]
    walk_at "dx"
    refine ⟨by simp, ?_⟩
    refine gall 1 [b1, b2, b3, b4] _ _ _ _ _ _ _ _ _ _ _ _ (by decide) q2 ?_
    walk_at "dx"
    rw [show ∀ n, (List.replicate n true).all id = true from fun n => by simp]
    walk_at "dx"
    refine ⟨by simp, ?_⟩
    refine gall 2 [b5, b6] _ _ _ _ _ _ _ _ _ _ _ _ (by decide) q3 ?_
    walk_at "dx"
    rw [show ∀ n, (List.replicate n true).all id = true from fun n => by simp]
    walk_at "dx"
    refine V.eq_selfLs (EqOk.of (okPs.list (okPs.all (W := 40) (k := 0) fun d hd => ?_)) (by decide)) ?_
    · simp only [List.mem_cons, List.not_mem_nil, or_false] at hd
      rcases hd with rfl | rfl | rfl | rfl | rfl | rfl | rfl | rfl <;> exact okP.int (by decide)
    exact ⟨M, m08, q⟩
end
end G
namespace G
open PySem PySem.Spec PyProof.Rows L2 U V
section
variable {P : Program} {w : World} {K : PySem.W.Frag} {mg : Str → Option Value} {base : Heap}
theorem okD__law_pot (T : Tx K mg) : FnOk P w K mg base L2.CX0 lv__law_pot T.f__law_pot T.d__law_pot p__law_pot (lift (spPotD K)) := fn_weak (fn_newPotN (ok1__law_pot T) rfl) pot_lift
set_option maxHeartbeats 40000000
theorem okD_law (T : Tx K mg) : FnG P w K mg base lv_law T.f_law T.d_law p_law (lift (spLawD K [])) := by
  refine fnDX T.F_law sc_law (fun ds M R h => ?_) (fun cdv A outer s H E hr hgd => ?_)
  · first | (obtain ⟨rfl, _⟩ := h; rfl) | (obtain ⟨_, rfl, _⟩ := h; rfl) | (obtain ⟨_, _, rfl, _⟩ := h; rfl) | (obtain ⟨_, _, _, rfl, _⟩ := h; rfl) | (obtain ⟨_, _, _, _, rfl, _⟩ := h; rfl) | (obtain ⟨_, _, _, _, _, rfl, _⟩ := h; rfl) | (obtain ⟨_, _, _, _, _, _, rfl, _⟩ := h; rfl) | (obtain ⟨_, _, _, _, _, _, _, rfl, _⟩ := h; rfl) | (obtain ⟨_, _, _, _, _, _, _, _, rfl, _⟩ := h; rfl)
  · have hr64 := hr.units

    refine ⟨_, (pss_one (ps_ret (pe_callB (cr_allK (K := K) rfl rfl) (by rfl) T.n_all (by decide +kernel) (pa_cons (pe_lc (own := [("_law_k", 1)]) rfl sc_law.nd (pi_range1 rfl T.n_range (pa_cons (pe_callB (call_maxU rfl) (by rfl) T.n_max (by decide +kernel) (pa_cons pe_int (pa_cons (pe_callB (call_minU rfl) (by rfl) T.n_min (by decide +kernel) (pa_cons (pe_callB (show CallR _ _ (rLenUS K) from call_lenK (K := K) rfl) (by rfl) T.n_len (by decide +kernel) (pa_cons (pv 0) pa_nil)) (pa_cons pe_int pa_nil))) pa_nil))) pa_nil)) (blkOk_by (N := ["_law_script", "_law_k"]) (sc := L2.defScope s_law) (by decide +kernel)) (fun _ _ _ _ _ => (pg_name (i := 1) sc_law.nd rfl (by first | exact Or.inl rfl | exact Or.inr rfl))) (fun _ _ _ _ _ => pts_nil) (fun _ _ _ _ _ => (pe_callG (okD__law_right T) (hr.mono (by decide)) hgd rfl T.m__law_right T.F__law_right.kp T.b__law_right (pa_cons (pe_call (okD__law_pot T) (hr.mono (by decide)) rfl T.m__law_pot T.F__law_pot.kp T.b__law_pot .nil pass0 (pa_cons (pv 0) (pa_cons (pv 1) pa_nil))) pa_nil)))) pa_nil)))), ?_⟩
    refine ⟨_, inferInstance, fun ds M R h => ?_⟩
    obtain ⟨d, ns, rfl, hd, hl, rfl, q⟩ := h
    rw [st_law]
    walk_at "dx"
    refine ⟨d, ns, rfl, hd, ?_⟩
    walk_at "dx"
    refine ⟨by split <;> split <;> omega, by split <;> split <;> omega, trivial, by rw [rgD_len]; split <;> split <;> omega, ?_⟩
    refine gather_all (f := fun _ => .bl true) ?_ trivial ?_
    · intro x hx Ky hy
      obtain ⟨i, hi, rfl⟩ := List.mem_map.mp hx
      have hi2 := List.mem_range.mp hi
      walk_at "dx"
      refine ⟨d, ns, i, by rw [Int.zero_add], hd, hl, by revert hi2; split <;> split <;> omega, fun p => ?_⟩
      walk_at "dx"
      exact ⟨p, rfl, if_pos rfl, hy⟩
    · walk_at "dx"
      have e : ∀ l : List D, l.map (fun _ => D.bl true) = (List.replicate l.length true).map D.bl := fun l => by rw [List.map_const', List.map_replicate]
      rw [e]
      refine x_all ?_
      rw [show ∀ n, (List.replicate n true).all id = true from fun n => by simp]
      exact ⟨_, mle_refl, q⟩
theorem ok_law (T : Tx K mg) : FnG P w K mg base lv_law T.f_law T.d_law p_law (spLawT K []) := V.fnG_weak (okD_law T) (law_liftT (Ts := []) (fun b hb => nomatch hb))
end
end G
namespace G
open PySem PySem.Spec PyProof.Rows L2 U V
theorem law_end {P : Program} {w : World} {K : PySem.W.Frag} {h : Heap} {mg : Str → Option Value} {fa fl : Addr} (X : K.In h) (G0 : h.Ns mainGlobals mg) (hmg : mg "law" = some (.ref fa)) (n1 : K.lookup sysModules = none)  (e : ∃ T : Tx K mg, T.f_law = fl) :
    ∃ (fd : FuncData) (cs : List (Addr × Addr)), K.In h ∧ (∀ p ∈ cs, h.get? p.2 = some { cls := .none, data := .fields #[] }) ∧ (∀ p ∈ cs, K.lookup p.2 = none) ∧ (∀ p ∈ cs, PySem.W.CodeHd h p.1 p.2) ∧ K.lookup sysModules = none ∧ (∀ (t : Shared) (u : Value), BindsTo t fd ⟨[u], []⟩ [("_law_script", u)]) ∧
      ∀ base : Heap, K.In base → base.Ns mainGlobals mg → (∀ p ∈ cs, LamX.TabB base mg p.1 p.2) → FnG P w K mg base lv_law fa fd ["_law_script"] (spLawT K cs) := by
  obtain ⟨T, _⟩ := e
  have q := hmg.symm.trans T.m_law
  cases q
  refine ⟨T.d_law, [], X, (fun p hp => nomatch hp), (fun p hp => nomatch hp), (fun p hp => nomatch hp), n1, ?_, fun base _ _ _ => ok_law T⟩
  obtain ⟨oc, od, kV, doc, pm, an, cdv, ct, osl, efd, lk, hcd⟩ := T.F_law.ex
  intro t u
  rw [efd]
  exact .of_eq rfl
end G
open PySem PySem.W PyProof.Rows
set_option maxRecDepth 100000 in
set_option maxHeartbeats 0 in
theorem PySem.Challenge.cw_shownshort_k07_errors_and_limits_holds : PySem.Challenge.rw_shownshort_k07_errors_and_limits.Holds := by
  w_on; o_law; k_head; (case hw => w_witness2)
  k_fill
  refine V.walkGT (l := PySem.Challenge.rw_shownshort_k07_errors_and_limits) (k := G.lv_law) (x := "_law_script") rfl rfl ⟨rfl, by decide, by decide⟩ (by decide +kernel) (fun w h Y => PySem.W.kIn_of Y) ?F
  case F =>
    intro w mg fa h Y KX G0 hmg
    refine' G.law_end KX G0 hmg ?x_me_sy (G.all_mk KX G0 ?x_n_ArithmeticError ?x_n_LookupError ?x_n_ValueError ?x_n_abs ?x_n_all ?x_n_divmod ?x_n_int ?x_n_isinstance ?x_n_len ?x_n_max ?x_n_min ?x_n_range ?x_n_repr ?x_k_MOST_SIGNS ?x_k_MOST_MARK ?x_k_MOST_ROW ?x_k_MOST_VIEWS ?x_k_MOST_TEXT ?x_k_MOST_LENGTH ?x_k_MOST_LISTED ?x_k_MOST_SHELVED ?x_C_InputError ?x_C_StateError ?x_C_SizeError ?x_C_InvalidNumber ?x_C_InvalidMark ?x_C_InvalidText ?x_C_InvalidLength ?x_C_InvalidRule ?x_C_InvalidWidth ?x_C_InvalidPlace ?x_C_InvalidLine ?x_C_NotANamer ?x_C_NotAShelf ?x_C_InvalidRow ?x_C_InvalidViews ?x_C_InvalidTexts ?x_C_InvalidDeeds ?x_C_NothingToUndo ?x_C_Busy ?x_C_UnknownName ?x_C_TooMany ?x_L_InvalidNumber ?x_me_R_InvalidNumber ?x_xs_InvalidNumber ?x_xe_InvalidNumber ?x_xt_InvalidNumber ?x_xk_InvalidNumber ?x_na_InvalidNumber_value ?x_a_InvalidNumber___init__ ?x_j_InvalidNumber___init__ ?x_i_InvalidNumber___init__ ?x_l_InvalidNumber___init__ ?x_c_InvalidNumber___init__ ?x_k_InvalidNumber___init__ ?x_L_InvalidMark ?x_me_R_InvalidMark ?x_xs_InvalidMark ?x_xe_InvalidMark ?x_xt_InvalidMark ?x_xk_InvalidMark ?x_na_InvalidMark_value ?x_a_InvalidMark___init__ ?x_j_InvalidMark___init__ ?x_i_InvalidMark___init__ ?x_l_InvalidMark___init__ ?x_c_InvalidMark___init__ ?x_k_InvalidMark___init__ ?x_L_InvalidText ?x_me_R_InvalidText ?x_xs_InvalidText ?x_xe_InvalidText ?x_xt_InvalidText ?x_xk_InvalidText ?x_na_InvalidText_value ?x_a_InvalidText___init__ ?x_j_InvalidText___init__ ?x_i_InvalidText___init__ ?x_l_InvalidText___init__ ?x_c_InvalidText___init__ ?x_k_InvalidText___init__ ?x_L_InvalidLength ?x_me_R_InvalidLength ?x_xs_InvalidLength ?x_xe_InvalidLength ?x_xt_InvalidLength ?x_xk_InvalidLength ?x_na_InvalidLength_value ?x_a_InvalidLength___init__ ?x_j_InvalidLength___init__ ?x_i_InvalidLength___init__ ?x_l_InvalidLength___init__ ?x_c_InvalidLength___init__ ?x_k_InvalidLength___init__ ?x_L_InvalidRule ?x_me_R_InvalidRule ?x_xs_InvalidRule ?x_xe_InvalidRule ?x_xt_InvalidRule ?x_xk_InvalidRule ?x_na_InvalidRule_value ?x_a_InvalidRule___init__ ?x_j_InvalidRule___init__ ?x_i_InvalidRule___init__ ?x_l_InvalidRule___init__ ?x_c_InvalidRule___init__ ?x_k_InvalidRule___init__ ?x_L_InvalidWidth ?x_me_R_InvalidWidth ?x_xs_InvalidWidth ?x_xe_InvalidWidth ?x_xt_InvalidWidth ?x_xk_InvalidWidth ?x_na_InvalidWidth_value ?x_a_InvalidWidth___init__ ?x_j_InvalidWidth___init__ ?x_i_InvalidWidth___init__ ?x_l_InvalidWidth___init__ ?x_c_InvalidWidth___init__ ?x_k_InvalidWidth___init__ ?x_L_InvalidPlace ?x_me_R_InvalidPlace ?x_xs_InvalidPlace ?x_xe_InvalidPlace ?x_xt_InvalidPlace ?x_xk_InvalidPlace ?x_na_InvalidPlace_value ?x_a_InvalidPlace___init__ ?x_j_InvalidPlace___init__ ?x_i_InvalidPlace___init__ ?x_l_InvalidPlace___init__ ?x_c_InvalidPlace___init__ ?x_k_InvalidPlace___init__ ?x_L_InvalidLine ?x_me_R_InvalidLine ?x_xs_InvalidLine ?x_xe_InvalidLine ?x_xt_InvalidLine ?x_xk_InvalidLine ?x_na_InvalidLine_value ?x_a_InvalidLine___init__ ?x_j_InvalidLine___init__ ?x_i_InvalidLine___init__ ?x_l_InvalidLine___init__ ?x_c_InvalidLine___init__ ?x_k_InvalidLine___init__ ?x_L_NotANamer ?x_me_R_NotANamer ?x_xs_NotANamer ?x_xe_NotANamer ?x_xt_NotANamer ?x_xk_NotANamer ?x_na_NotANamer_value ?x_a_NotANamer___init__ ?x_j_NotANamer___init__ ?x_i_NotANamer___init__ ?x_l_NotANamer___init__ ?x_c_NotANamer___init__ ?x_k_NotANamer___init__ ?x_L_NotAShelf ?x_me_R_NotAShelf ?x_xs_NotAShelf ?x_xe_NotAShelf ?x_xt_NotAShelf ?x_xk_NotAShelf ?x_na_NotAShelf_value ?x_a_NotAShelf___init__ ?x_j_NotAShelf___init__ ?x_i_NotAShelf___init__ ?x_l_NotAShelf___init__ ?x_c_NotAShelf___init__ ?x_k_NotAShelf___init__ ?x_L_InvalidRow ?x_me_R_InvalidRow ?x_xs_InvalidRow ?x_xe_InvalidRow ?x_xt_InvalidRow ?x_xk_InvalidRow ?x_na_InvalidRow_index ?x_a_InvalidRow___init__ ?x_j_InvalidRow___init__ ?x_i_InvalidRow___init__ ?x_l_InvalidRow___init__ ?x_c_InvalidRow___init__ ?x_k_InvalidRow___init__ ?x_L_InvalidViews ?x_me_R_InvalidViews ?x_xs_InvalidViews ?x_xe_InvalidViews ?x_xt_InvalidViews ?x_xk_InvalidViews ?x_na_InvalidViews_index ?x_a_InvalidViews___init__ ?x_j_InvalidViews___init__ ?x_i_InvalidViews___init__ ?x_l_InvalidViews___init__ ?x_c_InvalidViews___init__ ?x_k_InvalidViews___init__ ?x_L_InvalidTexts ?x_me_R_InvalidTexts ?x_xs_InvalidTexts ?x_xe_InvalidTexts ?x_xt_InvalidTexts ?x_xk_InvalidTexts ?x_na_InvalidTexts_index ?x_a_InvalidTexts___init__ ?x_j_InvalidTexts___init__ ?x_i_InvalidTexts___init__ ?x_l_InvalidTexts___init__ ?x_c_InvalidTexts___init__ ?x_k_InvalidTexts___init__ ?x_L_InvalidDeeds ?x_me_R_InvalidDeeds ?x_xs_InvalidDeeds ?x_xe_InvalidDeeds ?x_xt_InvalidDeeds ?x_xk_InvalidDeeds ?x_na_InvalidDeeds_index ?x_a_InvalidDeeds___init__ ?x_j_InvalidDeeds___init__ ?x_i_InvalidDeeds___init__ ?x_l_InvalidDeeds___init__ ?x_c_InvalidDeeds___init__ ?x_k_InvalidDeeds___init__ ?x_L_UnknownName ?x_me_R_UnknownName ?x_xs_UnknownName ?x_xe_UnknownName ?x_xt_UnknownName ?x_xk_UnknownName ?x_na_UnknownName_value ?x_a_UnknownName___init__ ?x_j_UnknownName___init__ ?x_i_UnknownName___init__ ?x_l_UnknownName___init__ ?x_c_UnknownName___init__ ?x_k_UnknownName___init__ ?x_L_TooMany ?x_me_R_TooMany ?x_xs_TooMany ?x_xe_TooMany ?x_xt_TooMany ?x_xk_TooMany ?x_na_TooMany_limit ?x_a_TooMany___init__ ?x_j_TooMany___init__ ?x_i_TooMany___init__ ?x_l_TooMany___init__ ?x_c_TooMany___init__ ?x_k_TooMany___init__ ?x_me_q_NothingToUndo ?x_kq_NothingToUndo ?x_bq_NothingToUndo ?x_tq_NothingToUndo ?x_me_q_Busy ?x_kq_Busy ?x_bq_Busy ?x_tq_Busy ?x_ga_InvalidNumber ?x_gg_InvalidNumber ?x_xd_InvalidNumber ?x_xa_InvalidNumber ?x_xn_InvalidNumber ?x_xq_InvalidNumber ?x_xm_InvalidNumber ?x_me_kr_InvalidNumber_0 ?x_me_kr_InvalidNumber_1 ?x_me_kr_InvalidNumber_2 ?x_me_kr_InvalidNumber_3 ?x_me_kr_InvalidNumber_4 ?x_me_kr_InvalidNumber_5 ?x_me_kr_InvalidNumber_6 ?x_me_kr_InvalidNumber_7 ?x_me_kr_InvalidNumber_8 ?x_me_kr_InvalidNumber_9 ?x_me_kr_InvalidNumber_10 ?x_me_kr_InvalidNumber_11 ?x_me_kr_InvalidNumber_12 ?x_me_kr_InvalidNumber_13 ?x_me_kr_InvalidNumber_14 ?x_me_kr_InvalidNumber_15 ?x_me_kr_InvalidNumber_16 ?x_me_kr_InvalidNumber_17 ?x_me_kr_InvalidNumber_18 ?x_me_kr_InvalidNumber_19 ?x_me_kr_InvalidNumber_20 ?x_me_kr_InvalidNumber_21 ?x_me_kr_InvalidNumber_22 ?x_me_kr_InvalidNumber_23 ?x_ga_InvalidMark ?x_gg_InvalidMark ?x_xd_InvalidMark ?x_xa_InvalidMark ?x_xn_InvalidMark ?x_xq_InvalidMark ?x_xm_InvalidMark ?x_me_kr_InvalidMark_0 ?x_me_kr_InvalidMark_1 ?x_me_kr_InvalidMark_2 ?x_me_kr_InvalidMark_3 ?x_me_kr_InvalidMark_4 ?x_me_kr_InvalidMark_5 ?x_me_kr_InvalidMark_6 ?x_me_kr_InvalidMark_7 ?x_me_kr_InvalidMark_8 ?x_me_kr_InvalidMark_9 ?x_me_kr_InvalidMark_10 ?x_me_kr_InvalidMark_11 ?x_me_kr_InvalidMark_12 ?x_me_kr_InvalidMark_13 ?x_me_kr_InvalidMark_14 ?x_me_kr_InvalidMark_15 ?x_me_kr_InvalidMark_16 ?x_me_kr_InvalidMark_17 ?x_me_kr_InvalidMark_18 ?x_me_kr_InvalidMark_19 ?x_me_kr_InvalidMark_20 ?x_me_kr_InvalidMark_21 ?x_me_kr_InvalidMark_22 ?x_me_kr_InvalidMark_23 ?x_ga_InvalidText ?x_gg_InvalidText ?x_xd_InvalidText ?x_xa_InvalidText ?x_xn_InvalidText ?x_xq_InvalidText ?x_xm_InvalidText ?x_me_kr_InvalidText_0 ?x_me_kr_InvalidText_1 ?x_me_kr_InvalidText_2 ?x_me_kr_InvalidText_3 ?x_me_kr_InvalidText_4 ?x_me_kr_InvalidText_5 ?x_me_kr_InvalidText_6 ?x_me_kr_InvalidText_7 ?x_me_kr_InvalidText_8 ?x_me_kr_InvalidText_9 ?x_me_kr_InvalidText_10 ?x_me_kr_InvalidText_11 ?x_me_kr_InvalidText_12 ?x_me_kr_InvalidText_13 ?x_me_kr_InvalidText_14 ?x_me_kr_InvalidText_15 ?x_me_kr_InvalidText_16 ?x_me_kr_InvalidText_17 ?x_me_kr_InvalidText_18 ?x_me_kr_InvalidText_19 ?x_me_kr_InvalidText_20 ?x_me_kr_InvalidText_21 ?x_me_kr_InvalidText_22 ?x_me_kr_InvalidText_23 ?x_ga_InvalidLength ?x_gg_InvalidLength ?x_xd_InvalidLength ?x_xa_InvalidLength ?x_xn_InvalidLength ?x_xq_InvalidLength ?x_xm_InvalidLength ?x_me_kr_InvalidLength_0 ?x_me_kr_InvalidLength_1 ?x_me_kr_InvalidLength_2 ?x_me_kr_InvalidLength_3 ?x_me_kr_InvalidLength_4 ?x_me_kr_InvalidLength_5 ?x_me_kr_InvalidLength_6 ?x_me_kr_InvalidLength_7 ?x_me_kr_InvalidLength_8 ?x_me_kr_InvalidLength_9 ?x_me_kr_InvalidLength_10 ?x_me_kr_InvalidLength_11 ?x_me_kr_InvalidLength_12 ?x_me_kr_InvalidLength_13 ?x_me_kr_InvalidLength_14 ?x_me_kr_InvalidLength_15 ?x_me_kr_InvalidLength_16 ?x_me_kr_InvalidLength_17 ?x_me_kr_InvalidLength_18 ?x_me_kr_InvalidLength_19 ?x_me_kr_InvalidLength_20 ?x_me_kr_InvalidLength_21 ?x_me_kr_InvalidLength_22 ?x_me_kr_InvalidLength_23 ?x_ga_InvalidRule ?x_gg_InvalidRule ?x_xd_InvalidRule ?x_xa_InvalidRule ?x_xn_InvalidRule ?x_xq_InvalidRule ?x_xm_InvalidRule ?x_me_kr_InvalidRule_0 ?x_me_kr_InvalidRule_1 ?x_me_kr_InvalidRule_2 ?x_me_kr_InvalidRule_3 ?x_me_kr_InvalidRule_4 ?x_me_kr_InvalidRule_5 ?x_me_kr_InvalidRule_6 ?x_me_kr_InvalidRule_7 ?x_me_kr_InvalidRule_8 ?x_me_kr_InvalidRule_9 ?x_me_kr_InvalidRule_10 ?x_me_kr_InvalidRule_11 ?x_me_kr_InvalidRule_12 ?x_me_kr_InvalidRule_13 ?x_me_kr_InvalidRule_14 ?x_me_kr_InvalidRule_15 ?x_me_kr_InvalidRule_16 ?x_me_kr_InvalidRule_17 ?x_me_kr_InvalidRule_18 ?x_me_kr_InvalidRule_19 ?x_me_kr_InvalidRule_20 ?x_me_kr_InvalidRule_21 ?x_me_kr_InvalidRule_22 ?x_me_kr_InvalidRule_23 ?x_ga_InvalidWidth ?x_gg_InvalidWidth ?x_xd_InvalidWidth ?x_xa_InvalidWidth ?x_xn_InvalidWidth ?x_xq_InvalidWidth ?x_xm_InvalidWidth ?x_me_kr_InvalidWidth_0 ?x_me_kr_InvalidWidth_1 ?x_me_kr_InvalidWidth_2 ?x_me_kr_InvalidWidth_3 ?x_me_kr_InvalidWidth_4 ?x_me_kr_InvalidWidth_5 ?x_me_kr_InvalidWidth_6 ?x_me_kr_InvalidWidth_7 ?x_me_kr_InvalidWidth_8 ?x_me_kr_InvalidWidth_9 ?x_me_kr_InvalidWidth_10 ?x_me_kr_InvalidWidth_11 ?x_me_kr_InvalidWidth_12 ?x_me_kr_InvalidWidth_13 ?x_me_kr_InvalidWidth_14 ?x_me_kr_InvalidWidth_15 ?x_me_kr_InvalidWidth_16 ?x_me_kr_InvalidWidth_17 ?x_me_kr_InvalidWidth_18 ?x_me_kr_InvalidWidth_19 ?x_me_kr_InvalidWidth_20 ?x_me_kr_InvalidWidth_21 ?x_me_kr_InvalidWidth_22 ?x_me_kr_InvalidWidth_23 ?x_ga_InvalidPlace ?x_gg_InvalidPlace ?x_xd_InvalidPlace ?x_xa_InvalidPlace ?x_xn_InvalidPlace ?x_xq_InvalidPlace ?x_xm_InvalidPlace ?x_me_kr_InvalidPlace_0 ?x_me_kr_InvalidPlace_1 ?x_me_kr_InvalidPlace_2 ?x_me_kr_InvalidPlace_3 ?x_me_kr_InvalidPlace_4 ?x_me_kr_InvalidPlace_5 ?x_me_kr_InvalidPlace_6 ?x_me_kr_InvalidPlace_7 ?x_me_kr_InvalidPlace_8 ?x_me_kr_InvalidPlace_9 ?x_me_kr_InvalidPlace_10 ?x_me_kr_InvalidPlace_11 ?x_me_kr_InvalidPlace_12 ?x_me_kr_InvalidPlace_13 ?x_me_kr_InvalidPlace_14 ?x_me_kr_InvalidPlace_15 ?x_me_kr_InvalidPlace_16 ?x_me_kr_InvalidPlace_17 ?x_me_kr_InvalidPlace_18 ?x_me_kr_InvalidPlace_19 ?x_me_kr_InvalidPlace_20 ?x_me_kr_InvalidPlace_21 ?x_me_kr_InvalidPlace_22 ?x_me_kr_InvalidPlace_23 ?x_ga_InvalidLine ?x_gg_InvalidLine ?x_xd_InvalidLine ?x_xa_InvalidLine ?x_xn_InvalidLine ?x_xq_InvalidLine ?x_xm_InvalidLine ?x_me_kr_InvalidLine_0 ?x_me_kr_InvalidLine_1 ?x_me_kr_InvalidLine_2 ?x_me_kr_InvalidLine_3 ?x_me_kr_InvalidLine_4 ?x_me_kr_InvalidLine_5 ?x_me_kr_InvalidLine_6 ?x_me_kr_InvalidLine_7 ?x_me_kr_InvalidLine_8 ?x_me_kr_InvalidLine_9 ?x_me_kr_InvalidLine_10 ?x_me_kr_InvalidLine_11 ?x_me_kr_InvalidLine_12 ?x_me_kr_InvalidLine_13 ?x_me_kr_InvalidLine_14 ?x_me_kr_InvalidLine_15 ?x_me_kr_InvalidLine_16 ?x_me_kr_InvalidLine_17 ?x_me_kr_InvalidLine_18 ?x_me_kr_InvalidLine_19 ?x_me_kr_InvalidLine_20 ?x_me_kr_InvalidLine_21 ?x_me_kr_InvalidLine_22 ?x_me_kr_InvalidLine_23 ?x_ga_NotANamer ?x_gg_NotANamer ?x_xd_NotANamer ?x_xa_NotANamer ?x_xn_NotANamer ?x_xq_NotANamer ?x_xm_NotANamer ?x_me_kr_NotANamer_0 ?x_me_kr_NotANamer_1 ?x_me_kr_NotANamer_2 ?x_me_kr_NotANamer_3 ?x_me_kr_NotANamer_4 ?x_me_kr_NotANamer_5 ?x_me_kr_NotANamer_6 ?x_me_kr_NotANamer_7 ?x_me_kr_NotANamer_8 ?x_me_kr_NotANamer_9 ?x_me_kr_NotANamer_10 ?x_me_kr_NotANamer_11 ?x_me_kr_NotANamer_12 ?x_me_kr_NotANamer_13 ?x_me_kr_NotANamer_14 ?x_me_kr_NotANamer_15 ?x_me_kr_NotANamer_16 ?x_me_kr_NotANamer_17 ?x_me_kr_NotANamer_18 ?x_me_kr_NotANamer_19 ?x_me_kr_NotANamer_20 ?x_me_kr_NotANamer_21 ?x_me_kr_NotANamer_22 ?x_me_kr_NotANamer_23 ?x_ga_NotAShelf ?x_gg_NotAShelf ?x_xd_NotAShelf ?x_xa_NotAShelf ?x_xn_NotAShelf ?x_xq_NotAShelf ?x_xm_NotAShelf ?x_me_kr_NotAShelf_0 ?x_me_kr_NotAShelf_1 ?x_me_kr_NotAShelf_2 ?x_me_kr_NotAShelf_3 ?x_me_kr_NotAShelf_4 ?x_me_kr_NotAShelf_5 ?x_me_kr_NotAShelf_6 ?x_me_kr_NotAShelf_7 ?x_me_kr_NotAShelf_8 ?x_me_kr_NotAShelf_9 ?x_me_kr_NotAShelf_10 ?x_me_kr_NotAShelf_11 ?x_me_kr_NotAShelf_12 ?x_me_kr_NotAShelf_13 ?x_me_kr_NotAShelf_14 ?x_me_kr_NotAShelf_15 ?x_me_kr_NotAShelf_16 ?x_me_kr_NotAShelf_17 ?x_me_kr_NotAShelf_18 ?x_me_kr_NotAShelf_19 ?x_me_kr_NotAShelf_20 ?x_me_kr_NotAShelf_21 ?x_me_kr_NotAShelf_22 ?x_me_kr_NotAShelf_23 ?x_ga_InvalidRow ?x_gg_InvalidRow ?x_xd_InvalidRow ?x_xa_InvalidRow ?x_xn_InvalidRow ?x_xq_InvalidRow ?x_xm_InvalidRow ?x_me_kr_InvalidRow_0 ?x_me_kr_InvalidRow_1 ?x_me_kr_InvalidRow_2 ?x_me_kr_InvalidRow_3 ?x_me_kr_InvalidRow_4 ?x_me_kr_InvalidRow_5 ?x_me_kr_InvalidRow_6 ?x_me_kr_InvalidRow_7 ?x_me_kr_InvalidRow_8 ?x_me_kr_InvalidRow_9 ?x_me_kr_InvalidRow_10 ?x_me_kr_InvalidRow_11 ?x_me_kr_InvalidRow_12 ?x_me_kr_InvalidRow_13 ?x_me_kr_InvalidRow_14 ?x_me_kr_InvalidRow_15 ?x_me_kr_InvalidRow_16 ?x_me_kr_InvalidRow_17 ?x_me_kr_InvalidRow_18 ?x_me_kr_InvalidRow_19 ?x_me_kr_InvalidRow_20 ?x_me_kr_InvalidRow_21 ?x_me_kr_InvalidRow_22 ?x_me_kr_InvalidRow_23 ?x_ga_InvalidViews ?x_gg_InvalidViews ?x_xd_InvalidViews ?x_xa_InvalidViews ?x_xn_InvalidViews ?x_xq_InvalidViews ?x_xm_InvalidViews ?x_me_kr_InvalidViews_0 ?x_me_kr_InvalidViews_1 ?x_me_kr_InvalidViews_2 ?x_me_kr_InvalidViews_3 ?x_me_kr_InvalidViews_4 ?x_me_kr_InvalidViews_5 ?x_me_kr_InvalidViews_6 ?x_me_kr_InvalidViews_7 ?x_me_kr_InvalidViews_8 ?x_me_kr_InvalidViews_9 ?x_me_kr_InvalidViews_10 ?x_me_kr_InvalidViews_11 ?x_me_kr_InvalidViews_12 ?x_me_kr_InvalidViews_13 ?x_me_kr_InvalidViews_14 ?x_me_kr_InvalidViews_15 ?x_me_kr_InvalidViews_16 ?x_me_kr_InvalidViews_17 ?x_me_kr_InvalidViews_18 ?x_me_kr_InvalidViews_19 ?x_me_kr_InvalidViews_20 ?x_me_kr_InvalidViews_21 ?x_me_kr_InvalidViews_22 ?x_me_kr_InvalidViews_23 ?x_ga_InvalidTexts ?x_gg_InvalidTexts ?x_xd_InvalidTexts ?x_xa_InvalidTexts ?x_xn_InvalidTexts ?x_xq_InvalidTexts ?x_xm_InvalidTexts ?x_me_kr_InvalidTexts_0 ?x_me_kr_InvalidTexts_1 ?x_me_kr_InvalidTexts_2 ?x_me_kr_InvalidTexts_3 ?x_me_kr_InvalidTexts_4 ?x_me_kr_InvalidTexts_5 ?x_me_kr_InvalidTexts_6 ?x_me_kr_InvalidTexts_7 ?x_me_kr_InvalidTexts_8 ?x_me_kr_InvalidTexts_9 ?x_me_kr_InvalidTexts_10 ?x_me_kr_InvalidTexts_11 ?x_me_kr_InvalidTexts_12 ?x_me_kr_InvalidTexts_13 ?x_me_kr_InvalidTexts_14 ?x_me_kr_InvalidTexts_15 ?x_me_kr_InvalidTexts_16 ?x_me_kr_InvalidTexts_17 ?x_me_kr_InvalidTexts_18 ?x_me_kr_InvalidTexts_19 ?x_me_kr_InvalidTexts_20 ?x_me_kr_InvalidTexts_21 ?x_me_kr_InvalidTexts_22 ?x_me_kr_InvalidTexts_23 ?x_ga_InvalidDeeds ?x_gg_InvalidDeeds ?x_xd_InvalidDeeds ?x_xa_InvalidDeeds ?x_xn_InvalidDeeds ?x_xq_InvalidDeeds ?x_xm_InvalidDeeds ?x_me_kr_InvalidDeeds_0 ?x_me_kr_InvalidDeeds_1 ?x_me_kr_InvalidDeeds_2 ?x_me_kr_InvalidDeeds_3 ?x_me_kr_InvalidDeeds_4 ?x_me_kr_InvalidDeeds_5 ?x_me_kr_InvalidDeeds_6 ?x_me_kr_InvalidDeeds_7 ?x_me_kr_InvalidDeeds_8 ?x_me_kr_InvalidDeeds_9 ?x_me_kr_InvalidDeeds_10 ?x_me_kr_InvalidDeeds_11 ?x_me_kr_InvalidDeeds_12 ?x_me_kr_InvalidDeeds_13 ?x_me_kr_InvalidDeeds_14 ?x_me_kr_InvalidDeeds_15 ?x_me_kr_InvalidDeeds_16 ?x_me_kr_InvalidDeeds_17 ?x_me_kr_InvalidDeeds_18 ?x_me_kr_InvalidDeeds_19 ?x_me_kr_InvalidDeeds_20 ?x_me_kr_InvalidDeeds_21 ?x_me_kr_InvalidDeeds_22 ?x_me_kr_InvalidDeeds_23 ?x_ga_NothingToUndo ?x_gg_NothingToUndo ?x_xd_NothingToUndo ?x_xa_NothingToUndo ?x_xn_NothingToUndo ?x_xq_NothingToUndo ?x_xm_NothingToUndo ?x_xe_NothingToUndo ?x_me_kr_NothingToUndo_0 ?x_me_kr_NothingToUndo_1 ?x_me_kr_NothingToUndo_2 ?x_me_kr_NothingToUndo_3 ?x_me_kr_NothingToUndo_4 ?x_me_kr_NothingToUndo_5 ?x_me_kr_NothingToUndo_6 ?x_me_kr_NothingToUndo_7 ?x_me_kr_NothingToUndo_8 ?x_me_kr_NothingToUndo_9 ?x_me_kr_NothingToUndo_10 ?x_me_kr_NothingToUndo_11 ?x_me_kr_NothingToUndo_12 ?x_me_kr_NothingToUndo_13 ?x_me_kr_NothingToUndo_14 ?x_me_kr_NothingToUndo_15 ?x_me_kr_NothingToUndo_16 ?x_me_kr_NothingToUndo_17 ?x_me_kr_NothingToUndo_18 ?x_me_kr_NothingToUndo_19 ?x_me_kr_NothingToUndo_20 ?x_me_kr_NothingToUndo_21 ?x_me_kr_NothingToUndo_22 ?x_me_kr_NothingToUndo_23 ?x_ga_Busy ?x_gg_Busy ?x_xd_Busy ?x_xa_Busy ?x_xn_Busy ?x_xq_Busy ?x_xm_Busy ?x_xe_Busy ?x_me_kr_Busy_0 ?x_me_kr_Busy_1 ?x_me_kr_Busy_2 ?x_me_kr_Busy_3 ?x_me_kr_Busy_4 ?x_me_kr_Busy_5 ?x_me_kr_Busy_6 ?x_me_kr_Busy_7 ?x_me_kr_Busy_8 ?x_me_kr_Busy_9 ?x_me_kr_Busy_10 ?x_me_kr_Busy_11 ?x_me_kr_Busy_12 ?x_me_kr_Busy_13 ?x_me_kr_Busy_14 ?x_me_kr_Busy_15 ?x_me_kr_Busy_16 ?x_me_kr_Busy_17 ?x_me_kr_Busy_18 ?x_me_kr_Busy_19 ?x_me_kr_Busy_20 ?x_me_kr_Busy_21 ?x_me_kr_Busy_22 ?x_me_kr_Busy_23 ?x_ga_UnknownName ?x_gg_UnknownName ?x_xd_UnknownName ?x_xa_UnknownName ?x_xn_UnknownName ?x_xq_UnknownName ?x_xm_UnknownName ?x_me_kr_UnknownName_0 ?x_me_kr_UnknownName_1 ?x_me_kr_UnknownName_2 ?x_me_kr_UnknownName_3 ?x_me_kr_UnknownName_4 ?x_me_kr_UnknownName_5 ?x_me_kr_UnknownName_6 ?x_me_kr_UnknownName_7 ?x_me_kr_UnknownName_8 ?x_me_kr_UnknownName_9 ?x_me_kr_UnknownName_10 ?x_me_kr_UnknownName_11 ?x_me_kr_UnknownName_12 ?x_me_kr_UnknownName_13 ?x_me_kr_UnknownName_14 ?x_me_kr_UnknownName_15 ?x_me_kr_UnknownName_16 ?x_me_kr_UnknownName_17 ?x_me_kr_UnknownName_18 ?x_me_kr_UnknownName_19 ?x_me_kr_UnknownName_20 ?x_me_kr_UnknownName_21 ?x_me_kr_UnknownName_22 ?x_me_kr_UnknownName_23 ?x_ga_TooMany ?x_gg_TooMany ?x_xd_TooMany ?x_xa_TooMany ?x_xn_TooMany ?x_xq_TooMany ?x_xm_TooMany ?x_me_kr_TooMany_0 ?x_me_kr_TooMany_1 ?x_me_kr_TooMany_2 ?x_me_kr_TooMany_3 ?x_me_kr_TooMany_4 ?x_me_kr_TooMany_5 ?x_me_kr_TooMany_6 ?x_me_kr_TooMany_7 ?x_me_kr_TooMany_8 ?x_me_kr_TooMany_9 ?x_me_kr_TooMany_10 ?x_me_kr_TooMany_11 ?x_me_kr_TooMany_12 ?x_me_kr_TooMany_13 ?x_me_kr_TooMany_14 ?x_me_kr_TooMany_15 ?x_me_kr_TooMany_16 ?x_me_kr_TooMany_17 ?x_me_kr_TooMany_18 ?x_me_kr_TooMany_19 ?x_me_kr_TooMany_20 ?x_me_kr_TooMany_21 ?x_me_kr_TooMany_22 ?x_me_kr_TooMany_23 ?x_a__law_pot ?x_i__law_pot ?x_l__law_pot ?x_c__law_pot ?x_k__law_pot ?x_a__law_ladle ?x_i__law_ladle ?x_l__law_ladle ?x_c__law_ladle ?x_k__law_ladle ?x_a__law_one_of ?x_i__law_one_of ?x_l__law_one_of ?x_c__law_one_of ?x_k__law_one_of ?x_a__law_value_errors ?x_i__law_value_errors ?x_l__law_value_errors ?x_c__law_value_errors ?x_k__law_value_errors ?x_a__law_index_errors ?x_i__law_index_errors ?x_l__law_index_errors ?x_c__law_index_errors ?x_k__law_index_errors ?x_a__law_instances ?x_i__law_instances ?x_l__law_instances ?x_c__law_instances ?x_k__law_instances ?x_a__law_bases ?x_i__law_bases ?x_l__law_bases ?x_c__law_bases ?x_k__law_bases ?x_a__law_right ?x_i__law_right ?x_l__law_right ?x_c__law_right ?x_k__law_right ?x_a_law ?x_i_law ?x_l_law ?x_c_law ?x_k_law)
    (case x_me_sy => rfl)
    (case x_n_ArithmeticError => k_is)
    (case x_n_LookupError => k_is)
    (case x_n_ValueError => k_is)
    (case x_n_abs => k_is)
    (case x_n_all => k_is)
    (case x_n_divmod => k_is)
    (case x_n_int => k_is)
    (case x_n_isinstance => k_is)
    (case x_n_len => k_is)
    (case x_n_max => k_is)
    (case x_n_min => k_is)
    (case x_n_range => k_is)
    (case x_n_repr => k_is)
    (case x_k_MOST_SIGNS => k_is)
    (case x_k_MOST_MARK => k_is)
    (case x_k_MOST_ROW => k_is)
    (case x_k_MOST_VIEWS => k_is)
    (case x_k_MOST_TEXT => k_is)
    (case x_k_MOST_LENGTH => k_is)
    (case x_k_MOST_LISTED => k_is)
    (case x_k_MOST_SHELVED => k_is)
    (case x_C_InputError => k_is)
    (case x_C_StateError => k_is)
    (case x_C_SizeError => k_is)
    (case x_C_InvalidNumber => k_is)
    (case x_C_InvalidMark => k_is)
    (case x_C_InvalidText => k_is)
    (case x_C_InvalidLength => k_is)
    (case x_C_InvalidRule => k_is)
    (case x_C_InvalidWidth => k_is)
    (case x_C_InvalidPlace => k_is)
    (case x_C_InvalidLine => k_is)
    (case x_C_NotANamer => k_is)
    (case x_C_NotAShelf => k_is)
    (case x_C_InvalidRow => k_is)
    (case x_C_InvalidViews => k_is)
    (case x_C_InvalidTexts => k_is)
    (case x_C_InvalidDeeds => k_is)
    (case x_C_NothingToUndo => k_is)
    (case x_C_Busy => k_is)
    (case x_C_UnknownName => k_is)
    (case x_C_TooMany => k_is)
    (case x_L_InvalidNumber => k_is)
    (case x_me_R_InvalidNumber => first | rfl | k_exc | k_is)
    (case x_xs_InvalidNumber => k_is)
    (case x_xe_InvalidNumber => k_is)
    (case x_xt_InvalidNumber => k_is)
    (case x_xk_InvalidNumber => k_is)
    (case x_na_InvalidNumber_value => k_is)
    (case x_a_InvalidNumber___init__ => k_is)
    (case x_j_InvalidNumber___init__ => k_is)
    (case x_i_InvalidNumber___init__ => k_is)
    (case x_l_InvalidNumber___init__ => k_is)
    (case x_c_InvalidNumber___init__ => k_is)
    (case x_k_InvalidNumber___init__ => k_is)
    (case x_L_InvalidMark => k_is)
    (case x_me_R_InvalidMark => first | rfl | k_exc | k_is)
    (case x_xs_InvalidMark => k_is)
    (case x_xe_InvalidMark => k_is)
    (case x_xt_InvalidMark => k_is)
    (case x_xk_InvalidMark => k_is)
    (case x_na_InvalidMark_value => k_is)
    (case x_a_InvalidMark___init__ => k_is)
    (case x_j_InvalidMark___init__ => k_is)
    (case x_i_InvalidMark___init__ => k_is)
    (case x_l_InvalidMark___init__ => k_is)
    (case x_c_InvalidMark___init__ => k_is)
    (case x_k_InvalidMark___init__ => k_is)
    (case x_L_InvalidText => k_is)
    (case x_me_R_InvalidText => first | rfl | k_exc | k_is)
    (case x_xs_InvalidText => k_is)
    (case x_xe_InvalidText => k_is)
    (case x_xt_InvalidText => k_is)
    (case x_xk_InvalidText => k_is)
    (case x_na_InvalidText_value => k_is)
    (case x_a_InvalidText___init__ => k_is)
    (case x_j_InvalidText___init__ => k_is)
    (case x_i_InvalidText___init__ => k_is)
    (case x_l_InvalidText___init__ => k_is)
    (case x_c_InvalidText___init__ => k_is)
    (case x_k_InvalidText___init__ => k_is)
    (case x_L_InvalidLength => k_is)
    (case x_me_R_InvalidLength => first | rfl | k_exc | k_is)
    (case x_xs_InvalidLength => k_is)
    (case x_xe_InvalidLength => k_is)
    (case x_xt_InvalidLength => k_is)
    (case x_xk_InvalidLength => k_is)
    (case x_na_InvalidLength_value => k_is)
    (case x_a_InvalidLength___init__ => k_is)
    (case x_j_InvalidLength___init__ => k_is)
    (case x_i_InvalidLength___init__ => k_is)
    (case x_l_InvalidLength___init__ => k_is)
    (case x_c_InvalidLength___init__ => k_is)
    (case x_k_InvalidLength___init__ => k_is)
    (case x_L_InvalidRule => k_is)
    (case x_me_R_InvalidRule => first | rfl | k_exc | k_is)
    (case x_xs_InvalidRule => k_is)
    (case x_xe_InvalidRule => k_is)
    (case x_xt_InvalidRule => k_is)
    (case x_xk_InvalidRule => k_is)
    (case x_na_InvalidRule_value => k_is)
    (case x_a_InvalidRule___init__ => k_is)
    (case x_j_InvalidRule___init__ => k_is)
    (case x_i_InvalidRule___init__ => k_is)
    (case x_l_InvalidRule___init__ => k_is)
    (case x_c_InvalidRule___init__ => k_is)
    (case x_k_InvalidRule___init__ => k_is)
    (case x_L_InvalidWidth => k_is)
    (case x_me_R_InvalidWidth => first | rfl | k_exc | k_is)
    (case x_xs_InvalidWidth => k_is)
    (case x_xe_InvalidWidth => k_is)
    (case x_xt_InvalidWidth => k_is)
    (case x_xk_InvalidWidth => k_is)
    (case x_na_InvalidWidth_value => k_is)
    (case x_a_InvalidWidth___init__ => k_is)
    (case x_j_InvalidWidth___init__ => k_is)
    (case x_i_InvalidWidth___init__ => k_is)
    (case x_l_InvalidWidth___init__ => k_is)
    (case x_c_InvalidWidth___init__ => k_is)
    (case x_k_InvalidWidth___init__ => k_is)
    (case x_L_InvalidPlace => k_is)
    (case x_me_R_InvalidPlace => first | rfl | k_exc | k_is)
    (case x_xs_InvalidPlace => k_is)
    (case x_xe_InvalidPlace => k_is)
    (case x_xt_InvalidPlace => k_is)
    (case x_xk_InvalidPlace => k_is)
    (case x_na_InvalidPlace_value => k_is)
    (case x_a_InvalidPlace___init__ => k_is)
    (case x_j_InvalidPlace___init__ => k_is)
    (case x_i_InvalidPlace___init__ => k_is)
    (case x_l_InvalidPlace___init__ => k_is)
    (case x_c_InvalidPlace___init__ => k_is)
    (case x_k_InvalidPlace___init__ => k_is)
    (case x_L_InvalidLine => k_is)
    (case x_me_R_InvalidLine => first | rfl | k_exc | k_is)
    (case x_xs_InvalidLine => k_is)
    (case x_xe_InvalidLine => k_is)
    (case x_xt_InvalidLine => k_is)
    (case x_xk_InvalidLine => k_is)
    (case x_na_InvalidLine_value => k_is)
    (case x_a_InvalidLine___init__ => k_is)
    (case x_j_InvalidLine___init__ => k_is)
    (case x_i_InvalidLine___init__ => k_is)
    (case x_l_InvalidLine___init__ => k_is)
    (case x_c_InvalidLine___init__ => k_is)
    (case x_k_InvalidLine___init__ => k_is)
    (case x_L_NotANamer => k_is)
    (case x_me_R_NotANamer => first | rfl | k_exc | k_is)
    (case x_xs_NotANamer => k_is)
    (case x_xe_NotANamer => k_is)
    (case x_xt_NotANamer => k_is)
    (case x_xk_NotANamer => k_is)
    (case x_na_NotANamer_value => k_is)
    (case x_a_NotANamer___init__ => k_is)
    (case x_j_NotANamer___init__ => k_is)
    (case x_i_NotANamer___init__ => k_is)
    (case x_l_NotANamer___init__ => k_is)
    (case x_c_NotANamer___init__ => k_is)
    (case x_k_NotANamer___init__ => k_is)
    (case x_L_NotAShelf => k_is)
    (case x_me_R_NotAShelf => first | rfl | k_exc | k_is)
    (case x_xs_NotAShelf => k_is)
    (case x_xe_NotAShelf => k_is)
    (case x_xt_NotAShelf => k_is)
    (case x_xk_NotAShelf => k_is)
    (case x_na_NotAShelf_value => k_is)
    (case x_a_NotAShelf___init__ => k_is)
    (case x_j_NotAShelf___init__ => k_is)
    (case x_i_NotAShelf___init__ => k_is)
    (case x_l_NotAShelf___init__ => k_is)
    (case x_c_NotAShelf___init__ => k_is)
    (case x_k_NotAShelf___init__ => k_is)
    (case x_L_InvalidRow => k_is)
    (case x_me_R_InvalidRow => first | rfl | k_exc | k_is)
    (case x_xs_InvalidRow => k_is)
    (case x_xe_InvalidRow => k_is)
    (case x_xt_InvalidRow => k_is)
    (case x_xk_InvalidRow => k_is)
    (case x_na_InvalidRow_index => k_is)
    (case x_a_InvalidRow___init__ => k_is)
    (case x_j_InvalidRow___init__ => k_is)
    (case x_i_InvalidRow___init__ => k_is)
    (case x_l_InvalidRow___init__ => k_is)
    (case x_c_InvalidRow___init__ => k_is)
    (case x_k_InvalidRow___init__ => k_is)
    (case x_L_InvalidViews => k_is)
    (case x_me_R_InvalidViews => first | rfl | k_exc | k_is)
    (case x_xs_InvalidViews => k_is)
    (case x_xe_InvalidViews => k_is)
    (case x_xt_InvalidViews => k_is)
    (case x_xk_InvalidViews => k_is)
    (case x_na_InvalidViews_index => k_is)
    (case x_a_InvalidViews___init__ => k_is)
    (case x_j_InvalidViews___init__ => k_is)
    (case x_i_InvalidViews___init__ => k_is)
    (case x_l_InvalidViews___init__ => k_is)
    (case x_c_InvalidViews___init__ => k_is)
    (case x_k_InvalidViews___init__ => k_is)
    (case x_L_InvalidTexts => k_is)
    (case x_me_R_InvalidTexts => first | rfl | k_exc | k_is)
    (case x_xs_InvalidTexts => k_is)
    (case x_xe_InvalidTexts => k_is)
    (case x_xt_InvalidTexts => k_is)
    (case x_xk_InvalidTexts => k_is)
    (case x_na_InvalidTexts_index => k_is)
    (case x_a_InvalidTexts___init__ => k_is)
    (case x_j_InvalidTexts___init__ => k_is)
    (case x_i_InvalidTexts___init__ => k_is)
    (case x_l_InvalidTexts___init__ => k_is)
    (case x_c_InvalidTexts___init__ => k_is)
    (case x_k_InvalidTexts___init__ => k_is)
    (case x_L_InvalidDeeds => k_is)
    (case x_me_R_InvalidDeeds => first | rfl | k_exc | k_is)
    (case x_xs_InvalidDeeds => k_is)
    (case x_xe_InvalidDeeds => k_is)
    (case x_xt_InvalidDeeds => k_is)
    (case x_xk_InvalidDeeds => k_is)
    (case x_na_InvalidDeeds_index => k_is)
    (case x_a_InvalidDeeds___init__ => k_is)
    (case x_j_InvalidDeeds___init__ => k_is)
    (case x_i_InvalidDeeds___init__ => k_is)
    (case x_l_InvalidDeeds___init__ => k_is)
    (case x_c_InvalidDeeds___init__ => k_is)
    (case x_k_InvalidDeeds___init__ => k_is)
    (case x_L_UnknownName => k_is)
    (case x_me_R_UnknownName => first | rfl | k_exc | k_is)
    (case x_xs_UnknownName => k_is)
    (case x_xe_UnknownName => k_is)
    (case x_xt_UnknownName => k_is)
    (case x_xk_UnknownName => k_is)
    (case x_na_UnknownName_value => k_is)
    (case x_a_UnknownName___init__ => k_is)
    (case x_j_UnknownName___init__ => k_is)
    (case x_i_UnknownName___init__ => k_is)
    (case x_l_UnknownName___init__ => k_is)
    (case x_c_UnknownName___init__ => k_is)
    (case x_k_UnknownName___init__ => k_is)
    (case x_L_TooMany => k_is)
    (case x_me_R_TooMany => first | rfl | k_exc | k_is)
    (case x_xs_TooMany => k_is)
    (case x_xe_TooMany => k_is)
    (case x_xt_TooMany => k_is)
    (case x_xk_TooMany => k_is)
    (case x_na_TooMany_limit => k_is)
    (case x_a_TooMany___init__ => k_is)
    (case x_j_TooMany___init__ => k_is)
    (case x_i_TooMany___init__ => k_is)
    (case x_l_TooMany___init__ => k_is)
    (case x_c_TooMany___init__ => k_is)
    (case x_k_TooMany___init__ => k_is)
    (case x_me_q_NothingToUndo => first | rfl | k_exc | k_is)
    (case x_kq_NothingToUndo => k_is)
    (case x_bq_NothingToUndo => k_is)
    (case x_tq_NothingToUndo => k_is)
    (case x_me_q_Busy => first | rfl | k_exc | k_is)
    (case x_kq_Busy => k_is)
    (case x_bq_Busy => k_is)
    (case x_tq_Busy => k_is)
    (case x_ga_InvalidNumber => k_is)
    (case x_gg_InvalidNumber => k_is)
    (case x_xd_InvalidNumber => k_is)
    (case x_xa_InvalidNumber => k_is)
    (case x_xn_InvalidNumber => k_is)
    (case x_xq_InvalidNumber => k_is)
    (case x_xm_InvalidNumber => k_is)
    (case x_me_kr_InvalidNumber_0 => first | rfl | k_exc | k_is)
    (case x_me_kr_InvalidNumber_1 => first | rfl | k_exc | k_is)
    (case x_me_kr_InvalidNumber_2 => first | rfl | k_exc | k_is)
    (case x_me_kr_InvalidNumber_3 => first | rfl | k_exc | k_is)
    (case x_me_kr_InvalidNumber_4 => first | rfl | k_exc | k_is)
    (case x_me_kr_InvalidNumber_5 => first | rfl | k_exc | k_is)
    (case x_me_kr_InvalidNumber_6 => first | rfl | k_exc | k_is)
    (case x_me_kr_InvalidNumber_7 => first | rfl | k_exc | k_is)
    (case x_me_kr_InvalidNumber_8 => first | rfl | k_exc | k_is)
    (case x_me_kr_InvalidNumber_9 => first | rfl | k_exc | k_is)
    (case x_me_kr_InvalidNumber_10 => first | rfl | k_exc | k_is)
    (case x_me_kr_InvalidNumber_11 => first | rfl | k_exc | k_is)
    (case x_me_kr_InvalidNumber_12 => first | rfl | k_exc | k_is)
    (case x_me_kr_InvalidNumber_13 => first | rfl | k_exc | k_is)
    (case x_me_kr_InvalidNumber_14 => first | rfl | k_exc | k_is)
    (case x_me_kr_InvalidNumber_15 => first | rfl | k_exc | k_is)
    (case x_me_kr_InvalidNumber_16 => first | rfl | k_exc | k_is)
    (case x_me_kr_InvalidNumber_17 => first | rfl | k_exc | k_is)
    (case x_me_kr_InvalidNumber_18 => first | rfl | k_exc | k_is)
    (case x_me_kr_InvalidNumber_19 => first | rfl | k_exc | k_is)
    (case x_me_kr_InvalidNumber_20 => first | rfl | k_exc | k_is)
    (case x_me_kr_InvalidNumber_21 => first | rfl | k_exc | k_is)
    (case x_me_kr_InvalidNumber_22 => first | rfl | k_exc | k_is)
    (case x_me_kr_InvalidNumber_23 => first | rfl | k_exc | k_is)
    (case x_ga_InvalidMark => k_is)
    (case x_gg_InvalidMark => k_is)
    (case x_xd_InvalidMark => k_is)
    (case x_xa_InvalidMark => k_is)
    (case x_xn_InvalidMark => k_is)
    (case x_xq_InvalidMark => k_is)
    (case x_xm_InvalidMark => k_is)
    (case x_me_kr_InvalidMark_0 => first | rfl | k_exc | k_is)
    (case x_me_kr_InvalidMark_1 => first | rfl | k_exc | k_is)
    (case x_me_kr_InvalidMark_2 => first | rfl | k_exc | k_is)
    (case x_me_kr_InvalidMark_3 => first | rfl | k_exc | k_is)
    (case x_me_kr_InvalidMark_4 => first | rfl | k_exc | k_is)
    (case x_me_kr_InvalidMark_5 => first | rfl | k_exc | k_is)
    (case x_me_kr_InvalidMark_6 => first | rfl | k_exc | k_is)
    (case x_me_kr_InvalidMark_7 => first | rfl | k_exc | k_is)
    (case x_me_kr_InvalidMark_8 => first | rfl | k_exc | k_is)
    (case x_me_kr_InvalidMark_9 => first | rfl | k_exc | k_is)
    (case x_me_kr_InvalidMark_10 => first | rfl | k_exc | k_is)
    (case x_me_kr_InvalidMark_11 => first | rfl | k_exc | k_is)
    (case x_me_kr_InvalidMark_12 => first | rfl | k_exc | k_is)
    (case x_me_kr_InvalidMark_13 => first | rfl | k_exc | k_is)
    (case x_me_kr_InvalidMark_14 => first | rfl | k_exc | k_is)
    (case x_me_kr_InvalidMark_15 => first | rfl | k_exc | k_is)
    (case x_me_kr_InvalidMark_16 => first | rfl | k_exc | k_is)
    (case x_me_kr_InvalidMark_17 => first | rfl | k_exc | k_is)
    (case x_me_kr_InvalidMark_18 => first | rfl | k_exc | k_is)
    (case x_me_kr_InvalidMark_19 => first | rfl | k_exc | k_is)
    (case x_me_kr_InvalidMark_20 => first | rfl | k_exc | k_is)
    (case x_me_kr_InvalidMark_21 => first | rfl | k_exc | k_is)
    (case x_me_kr_InvalidMark_22 => first | rfl | k_exc | k_is)
    (case x_me_kr_InvalidMark_23 => first | rfl | k_exc | k_is)
    (case x_ga_InvalidText => k_is)
    (case x_gg_InvalidText => k_is)
    (case x_xd_InvalidText => k_is)
    (case x_xa_InvalidText => k_is)
    (case x_xn_InvalidText => k_is)
    (case x_xq_InvalidText => k_is)
    (case x_xm_InvalidText => k_is)
    (case x_me_kr_InvalidText_0 => first | rfl | k_exc | k_is)
    (case x_me_kr_InvalidText_1 => first | rfl | k_exc | k_is)
    (case x_me_kr_InvalidText_2 => first | rfl | k_exc | k_is)
    (case x_me_kr_InvalidText_3 => first | rfl | k_exc | k_is)
    (case x_me_kr_InvalidText_4 => first | rfl | k_exc | k_is)
    (case x_me_kr_InvalidText_5 => first | rfl | k_exc | k_is)
    (case x_me_kr_InvalidText_6 => first | rfl | k_exc | k_is)
    (case x_me_kr_InvalidText_7 => first | rfl | k_exc | k_is)
    (case x_me_kr_InvalidText_8 => first | rfl | k_exc | k_is)
    (case x_me_kr_InvalidText_9 => first | rfl | k_exc | k_is)
    (case x_me_kr_InvalidText_10 => first | rfl | k_exc | k_is)
    (case x_me_kr_InvalidText_11 => first | rfl | k_exc | k_is)
    (case x_me_kr_InvalidText_12 => first | rfl | k_exc | k_is)
    (case x_me_kr_InvalidText_13 => first | rfl | k_exc | k_is)
    (case x_me_kr_InvalidText_14 => first | rfl | k_exc | k_is)
    (case x_me_kr_InvalidText_15 => first | rfl | k_exc | k_is)
    (case x_me_kr_InvalidText_16 => first | rfl | k_exc | k_is)
    (case x_me_kr_InvalidText_17 => first | rfl | k_exc | k_is)
    (case x_me_kr_InvalidText_18 => first | rfl | k_exc | k_is)
    (case x_me_kr_InvalidText_19 => first | rfl | k_exc | k_is)
    (case x_me_kr_InvalidText_20 => first | rfl | k_exc | k_is)
    (case x_me_kr_InvalidText_21 => first | rfl | k_exc | k_is)
    (case x_me_kr_InvalidText_22 => first | rfl | k_exc | k_is)
    (case x_me_kr_InvalidText_23 => first | rfl | k_exc | k_is)
    (case x_ga_InvalidLength => k_is)
    (case x_gg_InvalidLength => k_is)
    (case x_xd_InvalidLength => k_is)
    (case x_xa_InvalidLength => k_is)
    (case x_xn_InvalidLength => k_is)
    (case x_xq_InvalidLength => k_is)
    (case x_xm_InvalidLength => k_is)
    (case x_me_kr_InvalidLength_0 => first | rfl | k_exc | k_is)
    (case x_me_kr_InvalidLength_1 => first | rfl | k_exc | k_is)
    (case x_me_kr_InvalidLength_2 => first | rfl | k_exc | k_is)
    (case x_me_kr_InvalidLength_3 => first | rfl | k_exc | k_is)
    (case x_me_kr_InvalidLength_4 => first | rfl | k_exc | k_is)
    (case x_me_kr_InvalidLength_5 => first | rfl | k_exc | k_is)
    (case x_me_kr_InvalidLength_6 => first | rfl | k_exc | k_is)
    (case x_me_kr_InvalidLength_7 => first | rfl | k_exc | k_is)
    (case x_me_kr_InvalidLength_8 => first | rfl | k_exc | k_is)
    (case x_me_kr_InvalidLength_9 => first | rfl | k_exc | k_is)
    (case x_me_kr_InvalidLength_10 => first | rfl | k_exc | k_is)
    (case x_me_kr_InvalidLength_11 => first | rfl | k_exc | k_is)
    (case x_me_kr_InvalidLength_12 => first | rfl | k_exc | k_is)
    (case x_me_kr_InvalidLength_13 => first | rfl | k_exc | k_is)
    (case x_me_kr_InvalidLength_14 => first | rfl | k_exc | k_is)
    (case x_me_kr_InvalidLength_15 => first | rfl | k_exc | k_is)
    (case x_me_kr_InvalidLength_16 => first | rfl | k_exc | k_is)
    (case x_me_kr_InvalidLength_17 => first | rfl | k_exc | k_is)
    (case x_me_kr_InvalidLength_18 => first | rfl | k_exc | k_is)
    (case x_me_kr_InvalidLength_19 => first | rfl | k_exc | k_is)
    (case x_me_kr_InvalidLength_20 => first | rfl | k_exc | k_is)
    (case x_me_kr_InvalidLength_21 => first | rfl | k_exc | k_is)
    (case x_me_kr_InvalidLength_22 => first | rfl | k_exc | k_is)
    (case x_me_kr_InvalidLength_23 => first | rfl | k_exc | k_is)
    (case x_ga_InvalidRule => k_is)
    (case x_gg_InvalidRule => k_is)
    (case x_xd_InvalidRule => k_is)
    (case x_xa_InvalidRule => k_is)
    (case x_xn_InvalidRule => k_is)
    (case x_xq_InvalidRule => k_is)
    (case x_xm_InvalidRule => k_is)
    (case x_me_kr_InvalidRule_0 => first | rfl | k_exc | k_is)
    (case x_me_kr_InvalidRule_1 => first | rfl | k_exc | k_is)
    (case x_me_kr_InvalidRule_2 => first | rfl | k_exc | k_is)
    (case x_me_kr_InvalidRule_3 => first | rfl | k_exc | k_is)
    (case x_me_kr_InvalidRule_4 => first | rfl | k_exc | k_is)
    (case x_me_kr_InvalidRule_5 => first | rfl | k_exc | k_is)
    (case x_me_kr_InvalidRule_6 => first | rfl | k_exc | k_is)
    (case x_me_kr_InvalidRule_7 => first | rfl | k_exc | k_is)
    (case x_me_kr_InvalidRule_8 => first | rfl | k_exc | k_is)
    (case x_me_kr_InvalidRule_9 => first | rfl | k_exc | k_is)
    (case x_me_kr_InvalidRule_10 => first | rfl | k_exc | k_is)
    (case x_me_kr_InvalidRule_11 => first | rfl | k_exc | k_is)
    (case x_me_kr_InvalidRule_12 => first | rfl | k_exc | k_is)
    (case x_me_kr_InvalidRule_13 => first | rfl | k_exc | k_is)
    (case x_me_kr_InvalidRule_14 => first | rfl | k_exc | k_is)
    (case x_me_kr_InvalidRule_15 => first | rfl | k_exc | k_is)
    (case x_me_kr_InvalidRule_16 => first | rfl | k_exc | k_is)
    (case x_me_kr_InvalidRule_17 => first | rfl | k_exc | k_is)
    (case x_me_kr_InvalidRule_18 => first | rfl | k_exc | k_is)
    (case x_me_kr_InvalidRule_19 => first | rfl | k_exc | k_is)
    (case x_me_kr_InvalidRule_20 => first | rfl | k_exc | k_is)
    (case x_me_kr_InvalidRule_21 => first | rfl | k_exc | k_is)
    (case x_me_kr_InvalidRule_22 => first | rfl | k_exc | k_is)
    (case x_me_kr_InvalidRule_23 => first | rfl | k_exc | k_is)
    (case x_ga_InvalidWidth => k_is)
    (case x_gg_InvalidWidth => k_is)
    (case x_xd_InvalidWidth => k_is)
    (case x_xa_InvalidWidth => k_is)
    (case x_xn_InvalidWidth => k_is)
    (case x_xq_InvalidWidth => k_is)
    (case x_xm_InvalidWidth => k_is)
    (case x_me_kr_InvalidWidth_0 => first | rfl | k_exc | k_is)
    (case x_me_kr_InvalidWidth_1 => first | rfl | k_exc | k_is)
    (case x_me_kr_InvalidWidth_2 => first | rfl | k_exc | k_is)
    (case x_me_kr_InvalidWidth_3 => first | rfl | k_exc | k_is)
    (case x_me_kr_InvalidWidth_4 => first | rfl | k_exc | k_is)
    (case x_me_kr_InvalidWidth_5 => first | rfl | k_exc | k_is)
    (case x_me_kr_InvalidWidth_6 => first | rfl | k_exc | k_is)
    (case x_me_kr_InvalidWidth_7 => first | rfl | k_exc | k_is)
    (case x_me_kr_InvalidWidth_8 => first | rfl | k_exc | k_is)
    (case x_me_kr_InvalidWidth_9 => first | rfl | k_exc | k_is)
    (case x_me_kr_InvalidWidth_10 => first | rfl | k_exc | k_is)
    (case x_me_kr_InvalidWidth_11 => first | rfl | k_exc | k_is)
    (case x_me_kr_InvalidWidth_12 => first | rfl | k_exc | k_is)
    (case x_me_kr_InvalidWidth_13 => first | rfl | k_exc | k_is)
    (case x_me_kr_InvalidWidth_14 => first | rfl | k_exc | k_is)
    (case x_me_kr_InvalidWidth_15 => first | rfl | k_exc | k_is)
    (case x_me_kr_InvalidWidth_16 => first | rfl | k_exc | k_is)
    (case x_me_kr_InvalidWidth_17 => first | rfl | k_exc | k_is)
    (case x_me_kr_InvalidWidth_18 => first | rfl | k_exc | k_is)
    (case x_me_kr_InvalidWidth_19 => first | rfl | k_exc | k_is)
    (case x_me_kr_InvalidWidth_20 => first | rfl | k_exc | k_is)
    (case x_me_kr_InvalidWidth_21 => first | rfl | k_exc | k_is)
    (case x_me_kr_InvalidWidth_22 => first | rfl | k_exc | k_is)
    (case x_me_kr_InvalidWidth_23 => first | rfl | k_exc | k_is)
    (case x_ga_InvalidPlace => k_is)
    (case x_gg_InvalidPlace => k_is)
    (case x_xd_InvalidPlace => k_is)
    (case x_xa_InvalidPlace => k_is)
    (case x_xn_InvalidPlace => k_is)
    (case x_xq_InvalidPlace => k_is)
    (case x_xm_InvalidPlace => k_is)
    (case x_me_kr_InvalidPlace_0 => first | rfl | k_exc | k_is)
    (case x_me_kr_InvalidPlace_1 => first | rfl | k_exc | k_is)
    (case x_me_kr_InvalidPlace_2 => first | rfl | k_exc | k_is)
    (case x_me_kr_InvalidPlace_3 => first | rfl | k_exc | k_is)
    (case x_me_kr_InvalidPlace_4 => first | rfl | k_exc | k_is)
    (case x_me_kr_InvalidPlace_5 => first | rfl | k_exc | k_is)
    (case x_me_kr_InvalidPlace_6 => first | rfl | k_exc | k_is)
    (case x_me_kr_InvalidPlace_7 => first | rfl | k_exc | k_is)
    (case x_me_kr_InvalidPlace_8 => first | rfl | k_exc | k_is)
    (case x_me_kr_InvalidPlace_9 => first | rfl | k_exc | k_is)
    (case x_me_kr_InvalidPlace_10 => first | rfl | k_exc | k_is)
    (case x_me_kr_InvalidPlace_11 => first | rfl | k_exc | k_is)
    (case x_me_kr_InvalidPlace_12 => first | rfl | k_exc | k_is)
    (case x_me_kr_InvalidPlace_13 => first | rfl | k_exc | k_is)
    (case x_me_kr_InvalidPlace_14 => first | rfl | k_exc | k_is)
    (case x_me_kr_InvalidPlace_15 => first | rfl | k_exc | k_is)
    (case x_me_kr_InvalidPlace_16 => first | rfl | k_exc | k_is)
    (case x_me_kr_InvalidPlace_17 => first | rfl | k_exc | k_is)
    (case x_me_kr_InvalidPlace_18 => first | rfl | k_exc | k_is)
    (case x_me_kr_InvalidPlace_19 => first | rfl | k_exc | k_is)
    (case x_me_kr_InvalidPlace_20 => first | rfl | k_exc | k_is)
    (case x_me_kr_InvalidPlace_21 => first | rfl | k_exc | k_is)
    (case x_me_kr_InvalidPlace_22 => first | rfl | k_exc | k_is)
    (case x_me_kr_InvalidPlace_23 => first | rfl | k_exc | k_is)
    (case x_ga_InvalidLine => k_is)
    (case x_gg_InvalidLine => k_is)
    (case x_xd_InvalidLine => k_is)
    (case x_xa_InvalidLine => k_is)
    (case x_xn_InvalidLine => k_is)
    (case x_xq_InvalidLine => k_is)
    (case x_xm_InvalidLine => k_is)
    (case x_me_kr_InvalidLine_0 => first | rfl | k_exc | k_is)
    (case x_me_kr_InvalidLine_1 => first | rfl | k_exc | k_is)
    (case x_me_kr_InvalidLine_2 => first | rfl | k_exc | k_is)
    (case x_me_kr_InvalidLine_3 => first | rfl | k_exc | k_is)
    (case x_me_kr_InvalidLine_4 => first | rfl | k_exc | k_is)
    (case x_me_kr_InvalidLine_5 => first | rfl | k_exc | k_is)
    (case x_me_kr_InvalidLine_6 => first | rfl | k_exc | k_is)
    (case x_me_kr_InvalidLine_7 => first | rfl | k_exc | k_is)
    (case x_me_kr_InvalidLine_8 => first | rfl | k_exc | k_is)
    (case x_me_kr_InvalidLine_9 => first | rfl | k_exc | k_is)
    (case x_me_kr_InvalidLine_10 => first | rfl | k_exc | k_is)
    (case x_me_kr_InvalidLine_11 => first | rfl | k_exc | k_is)
    (case x_me_kr_InvalidLine_12 => first | rfl | k_exc | k_is)
    (case x_me_kr_InvalidLine_13 => first | rfl | k_exc | k_is)
    (case x_me_kr_InvalidLine_14 => first | rfl | k_exc | k_is)
    (case x_me_kr_InvalidLine_15 => first | rfl | k_exc | k_is)
    (case x_me_kr_InvalidLine_16 => first | rfl | k_exc | k_is)
    (case x_me_kr_InvalidLine_17 => first | rfl | k_exc | k_is)
    (case x_me_kr_InvalidLine_18 => first | rfl | k_exc | k_is)
    (case x_me_kr_InvalidLine_19 => first | rfl | k_exc | k_is)
    (case x_me_kr_InvalidLine_20 => first | rfl | k_exc | k_is)
    (case x_me_kr_InvalidLine_21 => first | rfl | k_exc | k_is)
    (case x_me_kr_InvalidLine_22 => first | rfl | k_exc | k_is)
    (case x_me_kr_InvalidLine_23 => first | rfl | k_exc | k_is)
    (case x_ga_NotANamer => k_is)
    (case x_gg_NotANamer => k_is)
    (case x_xd_NotANamer => k_is)
    (case x_xa_NotANamer => k_is)
    (case x_xn_NotANamer => k_is)
    (case x_xq_NotANamer => k_is)
    (case x_xm_NotANamer => k_is)
    (case x_me_kr_NotANamer_0 => first | rfl | k_exc | k_is)
    (case x_me_kr_NotANamer_1 => first | rfl | k_exc | k_is)
    (case x_me_kr_NotANamer_2 => first | rfl | k_exc | k_is)
    (case x_me_kr_NotANamer_3 => first | rfl | k_exc | k_is)
    (case x_me_kr_NotANamer_4 => first | rfl | k_exc | k_is)
    (case x_me_kr_NotANamer_5 => first | rfl | k_exc | k_is)
    (case x_me_kr_NotANamer_6 => first | rfl | k_exc | k_is)
    (case x_me_kr_NotANamer_7 => first | rfl | k_exc | k_is)
    (case x_me_kr_NotANamer_8 => first | rfl | k_exc | k_is)
    (case x_me_kr_NotANamer_9 => first | rfl | k_exc | k_is)
    (case x_me_kr_NotANamer_10 => first | rfl | k_exc | k_is)
    (case x_me_kr_NotANamer_11 => first | rfl | k_exc | k_is)
    (case x_me_kr_NotANamer_12 => first | rfl | k_exc | k_is)
    (case x_me_kr_NotANamer_13 => first | rfl | k_exc | k_is)
    (case x_me_kr_NotANamer_14 => first | rfl | k_exc | k_is)
    (case x_me_kr_NotANamer_15 => first | rfl | k_exc | k_is)
    (case x_me_kr_NotANamer_16 => first | rfl | k_exc | k_is)
    (case x_me_kr_NotANamer_17 => first | rfl | k_exc | k_is)
    (case x_me_kr_NotANamer_18 => first | rfl | k_exc | k_is)
    (case x_me_kr_NotANamer_19 => first | rfl | k_exc | k_is)
    (case x_me_kr_NotANamer_20 => first | rfl | k_exc | k_is)
    (case x_me_kr_NotANamer_21 => first | rfl | k_exc | k_is)
    (case x_me_kr_NotANamer_22 => first | rfl | k_exc | k_is)
    (case x_me_kr_NotANamer_23 => first | rfl | k_exc | k_is)
    (case x_ga_NotAShelf => k_is)
    (case x_gg_NotAShelf => k_is)
    (case x_xd_NotAShelf => k_is)
    (case x_xa_NotAShelf => k_is)
    (case x_xn_NotAShelf => k_is)
    (case x_xq_NotAShelf => k_is)
    (case x_xm_NotAShelf => k_is)
    (case x_me_kr_NotAShelf_0 => first | rfl | k_exc | k_is)
    (case x_me_kr_NotAShelf_1 => first | rfl | k_exc | k_is)
    (case x_me_kr_NotAShelf_2 => first | rfl | k_exc | k_is)
    (case x_me_kr_NotAShelf_3 => first | rfl | k_exc | k_is)
    (case x_me_kr_NotAShelf_4 => first | rfl | k_exc | k_is)
    (case x_me_kr_NotAShelf_5 => first | rfl | k_exc | k_is)
    (case x_me_kr_NotAShelf_6 => first | rfl | k_exc | k_is)
    (case x_me_kr_NotAShelf_7 => first | rfl | k_exc | k_is)
    (case x_me_kr_NotAShelf_8 => first | rfl | k_exc | k_is)
    (case x_me_kr_NotAShelf_9 => first | rfl | k_exc | k_is)
    (case x_me_kr_NotAShelf_10 => first | rfl | k_exc | k_is)
    (case x_me_kr_NotAShelf_11 => first | rfl | k_exc | k_is)
    (case x_me_kr_NotAShelf_12 => first | rfl | k_exc | k_is)
    (case x_me_kr_NotAShelf_13 => first | rfl | k_exc | k_is)
    (case x_me_kr_NotAShelf_14 => first | rfl | k_exc | k_is)
    (case x_me_kr_NotAShelf_15 => first | rfl | k_exc | k_is)
    (case x_me_kr_NotAShelf_16 => first | rfl | k_exc | k_is)
    (case x_me_kr_NotAShelf_17 => first | rfl | k_exc | k_is)
    (case x_me_kr_NotAShelf_18 => first | rfl | k_exc | k_is)
    (case x_me_kr_NotAShelf_19 => first | rfl | k_exc | k_is)
    (case x_me_kr_NotAShelf_20 => first | rfl | k_exc | k_is)
    (case x_me_kr_NotAShelf_21 => first | rfl | k_exc | k_is)
    (case x_me_kr_NotAShelf_22 => first | rfl | k_exc | k_is)
    (case x_me_kr_NotAShelf_23 => first | rfl | k_exc | k_is)
    (case x_ga_InvalidRow => k_is)
    (case x_gg_InvalidRow => k_is)
    (case x_xd_InvalidRow => k_is)
    (case x_xa_InvalidRow => k_is)
    (case x_xn_InvalidRow => k_is)
    (case x_xq_InvalidRow => k_is)
    (case x_xm_InvalidRow => k_is)
    (case x_me_kr_InvalidRow_0 => first | rfl | k_exc | k_is)
    (case x_me_kr_InvalidRow_1 => first | rfl | k_exc | k_is)
    (case x_me_kr_InvalidRow_2 => first | rfl | k_exc | k_is)
    (case x_me_kr_InvalidRow_3 => first | rfl | k_exc | k_is)
    (case x_me_kr_InvalidRow_4 => first | rfl | k_exc | k_is)
    (case x_me_kr_InvalidRow_5 => first | rfl | k_exc | k_is)
    (case x_me_kr_InvalidRow_6 => first | rfl | k_exc | k_is)
    (case x_me_kr_InvalidRow_7 => first | rfl | k_exc | k_is)
    (case x_me_kr_InvalidRow_8 => first | rfl | k_exc | k_is)
    (case x_me_kr_InvalidRow_9 => first | rfl | k_exc | k_is)
    (case x_me_kr_InvalidRow_10 => first | rfl | k_exc | k_is)
    (case x_me_kr_InvalidRow_11 => first | rfl | k_exc | k_is)
    (case x_me_kr_InvalidRow_12 => first | rfl | k_exc | k_is)
    (case x_me_kr_InvalidRow_13 => first | rfl | k_exc | k_is)
    (case x_me_kr_InvalidRow_14 => first | rfl | k_exc | k_is)
    (case x_me_kr_InvalidRow_15 => first | rfl | k_exc | k_is)
    (case x_me_kr_InvalidRow_16 => first | rfl | k_exc | k_is)
    (case x_me_kr_InvalidRow_17 => first | rfl | k_exc | k_is)
    (case x_me_kr_InvalidRow_18 => first | rfl | k_exc | k_is)
    (case x_me_kr_InvalidRow_19 => first | rfl | k_exc | k_is)
    (case x_me_kr_InvalidRow_20 => first | rfl | k_exc | k_is)
    (case x_me_kr_InvalidRow_21 => first | rfl | k_exc | k_is)
    (case x_me_kr_InvalidRow_22 => first | rfl | k_exc | k_is)
    (case x_me_kr_InvalidRow_23 => first | rfl | k_exc | k_is)
    (case x_ga_InvalidViews => k_is)
    (case x_gg_InvalidViews => k_is)
    (case x_xd_InvalidViews => k_is)
    (case x_xa_InvalidViews => k_is)
    (case x_xn_InvalidViews => k_is)
    (case x_xq_InvalidViews => k_is)
    (case x_xm_InvalidViews => k_is)
    (case x_me_kr_InvalidViews_0 => first | rfl | k_exc | k_is)
    (case x_me_kr_InvalidViews_1 => first | rfl | k_exc | k_is)
    (case x_me_kr_InvalidViews_2 => first | rfl | k_exc | k_is)
    (case x_me_kr_InvalidViews_3 => first | rfl | k_exc | k_is)
    (case x_me_kr_InvalidViews_4 => first | rfl | k_exc | k_is)
    (case x_me_kr_InvalidViews_5 => first | rfl | k_exc | k_is)
    (case x_me_kr_InvalidViews_6 => first | rfl | k_exc | k_is)
    (case x_me_kr_InvalidViews_7 => first | rfl | k_exc | k_is)
    (case x_me_kr_InvalidViews_8 => first | rfl | k_exc | k_is)
    (case x_me_kr_InvalidViews_9 => first | rfl | k_exc | k_is)
    (case x_me_kr_InvalidViews_10 => first | rfl | k_exc | k_is)
    (case x_me_kr_InvalidViews_11 => first | rfl | k_exc | k_is)
    (case x_me_kr_InvalidViews_12 => first | rfl | k_exc | k_is)
    (case x_me_kr_InvalidViews_13 => first | rfl | k_exc | k_is)
    (case x_me_kr_InvalidViews_14 => first | rfl | k_exc | k_is)
    (case x_me_kr_InvalidViews_15 => first | rfl | k_exc | k_is)
    (case x_me_kr_InvalidViews_16 => first | rfl | k_exc | k_is)
    (case x_me_kr_InvalidViews_17 => first | rfl | k_exc | k_is)
    (case x_me_kr_InvalidViews_18 => first | rfl | k_exc | k_is)
    (case x_me_kr_InvalidViews_19 => first | rfl | k_exc | k_is)
    (case x_me_kr_InvalidViews_20 => first | rfl | k_exc | k_is)
    (case x_me_kr_InvalidViews_21 => first | rfl | k_exc | k_is)
    (case x_me_kr_InvalidViews_22 => first | rfl | k_exc | k_is)
    (case x_me_kr_InvalidViews_23 => first | rfl | k_exc | k_is)
    (case x_ga_InvalidTexts => k_is)
    (case x_gg_InvalidTexts => k_is)
    (case x_xd_InvalidTexts => k_is)
    (case x_xa_InvalidTexts => k_is)
    (case x_xn_InvalidTexts => k_is)
    (case x_xq_InvalidTexts => k_is)
    (case x_xm_InvalidTexts => k_is)
    (case x_me_kr_InvalidTexts_0 => first | rfl | k_exc | k_is)
    (case x_me_kr_InvalidTexts_1 => first | rfl | k_exc | k_is)
    (case x_me_kr_InvalidTexts_2 => first | rfl | k_exc | k_is)
    (case x_me_kr_InvalidTexts_3 => first | rfl | k_exc | k_is)
    (case x_me_kr_InvalidTexts_4 => first | rfl | k_exc | k_is)
    (case x_me_kr_InvalidTexts_5 => first | rfl | k_exc | k_is)
    (case x_me_kr_InvalidTexts_6 => first | rfl | k_exc | k_is)
    (case x_me_kr_InvalidTexts_7 => first | rfl | k_exc | k_is)
    (case x_me_kr_InvalidTexts_8 => first | rfl | k_exc | k_is)
    (case x_me_kr_InvalidTexts_9 => first | rfl | k_exc | k_is)
    (case x_me_kr_InvalidTexts_10 => first | rfl | k_exc | k_is)
    (case x_me_kr_InvalidTexts_11 => first | rfl | k_exc | k_is)
    (case x_me_kr_InvalidTexts_12 => first | rfl | k_exc | k_is)
    (case x_me_kr_InvalidTexts_13 => first | rfl | k_exc | k_is)
    (case x_me_kr_InvalidTexts_14 => first | rfl | k_exc | k_is)
    (case x_me_kr_InvalidTexts_15 => first | rfl | k_exc | k_is)
    (case x_me_kr_InvalidTexts_16 => first | rfl | k_exc | k_is)
    (case x_me_kr_InvalidTexts_17 => first | rfl | k_exc | k_is)
    (case x_me_kr_InvalidTexts_18 => first | rfl | k_exc | k_is)
    (case x_me_kr_InvalidTexts_19 => first | rfl | k_exc | k_is)
    (case x_me_kr_InvalidTexts_20 => first | rfl | k_exc | k_is)
    (case x_me_kr_InvalidTexts_21 => first | rfl | k_exc | k_is)
    (case x_me_kr_InvalidTexts_22 => first | rfl | k_exc | k_is)
    (case x_me_kr_InvalidTexts_23 => first | rfl | k_exc | k_is)
    (case x_ga_InvalidDeeds => k_is)
    (case x_gg_InvalidDeeds => k_is)
    (case x_xd_InvalidDeeds => k_is)
    (case x_xa_InvalidDeeds => k_is)
    (case x_xn_InvalidDeeds => k_is)
    (case x_xq_InvalidDeeds => k_is)
    (case x_xm_InvalidDeeds => k_is)
    (case x_me_kr_InvalidDeeds_0 => first | rfl | k_exc | k_is)
    (case x_me_kr_InvalidDeeds_1 => first | rfl | k_exc | k_is)
    (case x_me_kr_InvalidDeeds_2 => first | rfl | k_exc | k_is)
    (case x_me_kr_InvalidDeeds_3 => first | rfl | k_exc | k_is)
    (case x_me_kr_InvalidDeeds_4 => first | rfl | k_exc | k_is)
    (case x_me_kr_InvalidDeeds_5 => first | rfl | k_exc | k_is)
    (case x_me_kr_InvalidDeeds_6 => first | rfl | k_exc | k_is)
    (case x_me_kr_InvalidDeeds_7 => first | rfl | k_exc | k_is)
    (case x_me_kr_InvalidDeeds_8 => first | rfl | k_exc | k_is)
    (case x_me_kr_InvalidDeeds_9 => first | rfl | k_exc | k_is)
    (case x_me_kr_InvalidDeeds_10 => first | rfl | k_exc | k_is)
    (case x_me_kr_InvalidDeeds_11 => first | rfl | k_exc | k_is)
    (case x_me_kr_InvalidDeeds_12 => first | rfl | k_exc | k_is)
    (case x_me_kr_InvalidDeeds_13 => first | rfl | k_exc | k_is)
    (case x_me_kr_InvalidDeeds_14 => first | rfl | k_exc | k_is)
    (case x_me_kr_InvalidDeeds_15 => first | rfl | k_exc | k_is)
    (case x_me_kr_InvalidDeeds_16 => first | rfl | k_exc | k_is)
    (case x_me_kr_InvalidDeeds_17 => first | rfl | k_exc | k_is)
    (case x_me_kr_InvalidDeeds_18 => first | rfl | k_exc | k_is)
    (case x_me_kr_InvalidDeeds_19 => first | rfl | k_exc | k_is)
    (case x_me_kr_InvalidDeeds_20 => first | rfl | k_exc | k_is)
    (case x_me_kr_InvalidDeeds_21 => first | rfl | k_exc | k_is)
    (case x_me_kr_InvalidDeeds_22 => first | rfl | k_exc | k_is)
    (case x_me_kr_InvalidDeeds_23 => first | rfl | k_exc | k_is)
    (case x_ga_NothingToUndo => k_is)
    (case x_gg_NothingToUndo => k_is)
    (case x_xd_NothingToUndo => k_is)
    (case x_xa_NothingToUndo => k_is)
    (case x_xn_NothingToUndo => k_is)
    (case x_xq_NothingToUndo => k_is)
    (case x_xm_NothingToUndo => k_is)
    (case x_xe_NothingToUndo => k_is)
    (case x_me_kr_NothingToUndo_0 => first | rfl | k_exc | k_is)
    (case x_me_kr_NothingToUndo_1 => first | rfl | k_exc | k_is)
    (case x_me_kr_NothingToUndo_2 => first | rfl | k_exc | k_is)
    (case x_me_kr_NothingToUndo_3 => first | rfl | k_exc | k_is)
    (case x_me_kr_NothingToUndo_4 => first | rfl | k_exc | k_is)
    (case x_me_kr_NothingToUndo_5 => first | rfl | k_exc | k_is)
    (case x_me_kr_NothingToUndo_6 => first | rfl | k_exc | k_is)
    (case x_me_kr_NothingToUndo_7 => first | rfl | k_exc | k_is)
    (case x_me_kr_NothingToUndo_8 => first | rfl | k_exc | k_is)
    (case x_me_kr_NothingToUndo_9 => first | rfl | k_exc | k_is)
    (case x_me_kr_NothingToUndo_10 => first | rfl | k_exc | k_is)
    (case x_me_kr_NothingToUndo_11 => first | rfl | k_exc | k_is)
    (case x_me_kr_NothingToUndo_12 => first | rfl | k_exc | k_is)
    (case x_me_kr_NothingToUndo_13 => first | rfl | k_exc | k_is)
    (case x_me_kr_NothingToUndo_14 => first | rfl | k_exc | k_is)
    (case x_me_kr_NothingToUndo_15 => first | rfl | k_exc | k_is)
    (case x_me_kr_NothingToUndo_16 => first | rfl | k_exc | k_is)
    (case x_me_kr_NothingToUndo_17 => first | rfl | k_exc | k_is)
    (case x_me_kr_NothingToUndo_18 => first | rfl | k_exc | k_is)
    (case x_me_kr_NothingToUndo_19 => first | rfl | k_exc | k_is)
    (case x_me_kr_NothingToUndo_20 => first | rfl | k_exc | k_is)
    (case x_me_kr_NothingToUndo_21 => first | rfl | k_exc | k_is)
    (case x_me_kr_NothingToUndo_22 => first | rfl | k_exc | k_is)
    (case x_me_kr_NothingToUndo_23 => first | rfl | k_exc | k_is)
    (case x_ga_Busy => k_is)
    (case x_gg_Busy => k_is)
    (case x_xd_Busy => k_is)
    (case x_xa_Busy => k_is)
    (case x_xn_Busy => k_is)
    (case x_xq_Busy => k_is)
    (case x_xm_Busy => k_is)
    (case x_xe_Busy => k_is)
    (case x_me_kr_Busy_0 => first | rfl | k_exc | k_is)
    (case x_me_kr_Busy_1 => first | rfl | k_exc | k_is)
    (case x_me_kr_Busy_2 => first | rfl | k_exc | k_is)
    (case x_me_kr_Busy_3 => first | rfl | k_exc | k_is)
    (case x_me_kr_Busy_4 => first | rfl | k_exc | k_is)
    (case x_me_kr_Busy_5 => first | rfl | k_exc | k_is)
    (case x_me_kr_Busy_6 => first | rfl | k_exc | k_is)
    (case x_me_kr_Busy_7 => first | rfl | k_exc | k_is)
    (case x_me_kr_Busy_8 => first | rfl | k_exc | k_is)
    (case x_me_kr_Busy_9 => first | rfl | k_exc | k_is)
    (case x_me_kr_Busy_10 => first | rfl | k_exc | k_is)
    (case x_me_kr_Busy_11 => first | rfl | k_exc | k_is)
    (case x_me_kr_Busy_12 => first | rfl | k_exc | k_is)
    (case x_me_kr_Busy_13 => first | rfl | k_exc | k_is)
    (case x_me_kr_Busy_14 => first | rfl | k_exc | k_is)
    (case x_me_kr_Busy_15 => first | rfl | k_exc | k_is)
    (case x_me_kr_Busy_16 => first | rfl | k_exc | k_is)
    (case x_me_kr_Busy_17 => first | rfl | k_exc | k_is)
    (case x_me_kr_Busy_18 => first | rfl | k_exc | k_is)
    (case x_me_kr_Busy_19 => first | rfl | k_exc | k_is)
    (case x_me_kr_Busy_20 => first | rfl | k_exc | k_is)
    (case x_me_kr_Busy_21 => first | rfl | k_exc | k_is)
    (case x_me_kr_Busy_22 => first | rfl | k_exc | k_is)
    (case x_me_kr_Busy_23 => first | rfl | k_exc | k_is)
    (case x_ga_UnknownName => k_is)
    (case x_gg_UnknownName => k_is)
    (case x_xd_UnknownName => k_is)
    (case x_xa_UnknownName => k_is)
    (case x_xn_UnknownName => k_is)
    (case x_xq_UnknownName => k_is)
    (case x_xm_UnknownName => k_is)
    (case x_me_kr_UnknownName_0 => first | rfl | k_exc | k_is)
    (case x_me_kr_UnknownName_1 => first | rfl | k_exc | k_is)
    (case x_me_kr_UnknownName_2 => first | rfl | k_exc | k_is)
    (case x_me_kr_UnknownName_3 => first | rfl | k_exc | k_is)
    (case x_me_kr_UnknownName_4 => first | rfl | k_exc | k_is)
    (case x_me_kr_UnknownName_5 => first | rfl | k_exc | k_is)
    (case x_me_kr_UnknownName_6 => first | rfl | k_exc | k_is)
    (case x_me_kr_UnknownName_7 => first | rfl | k_exc | k_is)
    (case x_me_kr_UnknownName_8 => first | rfl | k_exc | k_is)
    (case x_me_kr_UnknownName_9 => first | rfl | k_exc | k_is)
    (case x_me_kr_UnknownName_10 => first | rfl | k_exc | k_is)
    (case x_me_kr_UnknownName_11 => first | rfl | k_exc | k_is)
    (case x_me_kr_UnknownName_12 => first | rfl | k_exc | k_is)
    (case x_me_kr_UnknownName_13 => first | rfl | k_exc | k_is)
    (case x_me_kr_UnknownName_14 => first | rfl | k_exc | k_is)
    (case x_me_kr_UnknownName_15 => first | rfl | k_exc | k_is)
    (case x_me_kr_UnknownName_16 => first | rfl | k_exc | k_is)
    (case x_me_kr_UnknownName_17 => first | rfl | k_exc | k_is)
    (case x_me_kr_UnknownName_18 => first | rfl | k_exc | k_is)
    (case x_me_kr_UnknownName_19 => first | rfl | k_exc | k_is)
    (case x_me_kr_UnknownName_20 => first | rfl | k_exc | k_is)
    (case x_me_kr_UnknownName_21 => first | rfl | k_exc | k_is)
    (case x_me_kr_UnknownName_22 => first | rfl | k_exc | k_is)
    (case x_me_kr_UnknownName_23 => first | rfl | k_exc | k_is)
    (case x_ga_TooMany => k_is)
    (case x_gg_TooMany => k_is)
    (case x_xd_TooMany => k_is)
    (case x_xa_TooMany => k_is)
    (case x_xn_TooMany => k_is)
    (case x_xq_TooMany => k_is)
    (case x_xm_TooMany => k_is)
    (case x_me_kr_TooMany_0 => first | rfl | k_exc | k_is)
    (case x_me_kr_TooMany_1 => first | rfl | k_exc | k_is)
    (case x_me_kr_TooMany_2 => first | rfl | k_exc | k_is)
    (case x_me_kr_TooMany_3 => first | rfl | k_exc | k_is)
    (case x_me_kr_TooMany_4 => first | rfl | k_exc | k_is)
    (case x_me_kr_TooMany_5 => first | rfl | k_exc | k_is)
    (case x_me_kr_TooMany_6 => first | rfl | k_exc | k_is)
    (case x_me_kr_TooMany_7 => first | rfl | k_exc | k_is)
    (case x_me_kr_TooMany_8 => first | rfl | k_exc | k_is)
    (case x_me_kr_TooMany_9 => first | rfl | k_exc | k_is)
    (case x_me_kr_TooMany_10 => first | rfl | k_exc | k_is)
    (case x_me_kr_TooMany_11 => first | rfl | k_exc | k_is)
    (case x_me_kr_TooMany_12 => first | rfl | k_exc | k_is)
    (case x_me_kr_TooMany_13 => first | rfl | k_exc | k_is)
    (case x_me_kr_TooMany_14 => first | rfl | k_exc | k_is)
    (case x_me_kr_TooMany_15 => first | rfl | k_exc | k_is)
    (case x_me_kr_TooMany_16 => first | rfl | k_exc | k_is)
    (case x_me_kr_TooMany_17 => first | rfl | k_exc | k_is)
    (case x_me_kr_TooMany_18 => first | rfl | k_exc | k_is)
    (case x_me_kr_TooMany_19 => first | rfl | k_exc | k_is)
    (case x_me_kr_TooMany_20 => first | rfl | k_exc | k_is)
    (case x_me_kr_TooMany_21 => first | rfl | k_exc | k_is)
    (case x_me_kr_TooMany_22 => first | rfl | k_exc | k_is)
    (case x_me_kr_TooMany_23 => first | rfl | k_exc | k_is)
    (case x_a__law_pot => k_is)
    (case x_i__law_pot => k_is)
    (case x_l__law_pot => k_is)
    (case x_c__law_pot => k_is)
    (case x_k__law_pot => k_is)
    (case x_a__law_ladle => k_is)
    (case x_i__law_ladle => k_is)
    (case x_l__law_ladle => k_is)
    (case x_c__law_ladle => k_is)
    (case x_k__law_ladle => k_is)
    (case x_a__law_one_of => k_is)
    (case x_i__law_one_of => k_is)
    (case x_l__law_one_of => k_is)
    (case x_c__law_one_of => k_is)
    (case x_k__law_one_of => k_is)
    (case x_a__law_value_errors => k_is)
    (case x_i__law_value_errors => k_is)
    (case x_l__law_value_errors => k_is)
    (case x_c__law_value_errors => k_is)
    (case x_k__law_value_errors => k_is)
    (case x_a__law_index_errors => k_is)
    (case x_i__law_index_errors => k_is)
    (case x_l__law_index_errors => k_is)
    (case x_c__law_index_errors => k_is)
    (case x_k__law_index_errors => k_is)
    (case x_a__law_instances => k_is)
    (case x_i__law_instances => k_is)
    (case x_l__law_instances => k_is)
    (case x_c__law_instances => k_is)
    (case x_k__law_instances => k_is)
    (case x_a__law_bases => k_is)
    (case x_i__law_bases => k_is)
    (case x_l__law_bases => k_is)
    (case x_c__law_bases => k_is)
    (case x_k__law_bases => k_is)
    (case x_a__law_right => k_is)
    (case x_i__law_right => k_is)
    (case x_l__law_right => k_is)
    (case x_c__law_right => k_is)
    (case x_k__law_right => k_is)
    (case x_a_law => k_is)
    (case x_i_law => k_is)
    (case x_l_law => k_is)
    (case x_c_law => k_is)
    (case x_k_law => k_is)
