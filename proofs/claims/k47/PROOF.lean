import PyProof.Rows.All
import Wide.All
import OpenK.AllK
import Wide.FinOn
import PyProof.ReprRoads
import HandS.ForMost
import HandS.ForExc
import HandS.IsInst
import HandS.Codes
import HandS.Star
import HandS.Conv
import HandS.Wide
import HandS.WideBits
import HandS.FStr
import HandS.MakeKwOnly
import HandS.Defaults
import HandS.Flow
import HandS.Style
import KE.GoesEnum
import PyProof.ReprLen
import HandS.TupMul
import HandS.Lambda
import HandS.Steps
import HandS.TupAny
import HandS.Zip
import KE.DataCmp
import KE.SortData
import HandS.Dict
import HandS.SetKeys
import KE.GoesMore
import HandS.CallLocal
import PyProof.P3In
import HandS.OwnEq
import PyProof.Rows.SetFrom
import PyProof.WalksMore
import HandS.More
import PyProof.EqKinds
import PyProof.DictRoadsH
import PyProof.MinMaxWalk
import PyProof.StrOps
import PyProof.TupleOfSeq
import HandS.SetFor
import HandS.Strs
import HandS.WordsExc
import HandS.ExcInit
import HandS.ExcField
import HandS.ExcIs
import HandS.TryMany
import HandS.EndTab
import KE.KExcIs
import KE.KNestM
import KE.KTryMore
import HandS.HotCalls
import PyProof.Rows.Range3
import PyProof.Conv_bool
import HandS.TryOnly
import PyProof.StrLawsIn
import HandS.ExcValue
import PyProof.Rows.Digits
import PyProof.FactsAll.tuple
import PyProof.FactsAll.NoneType
import PyProof.ReprNest
import PySem.Challenge.RW_shownshort_k47_errors_of_names_in_order
set_option Elab.async false
set_option linter.all false
set_option maxRecDepth 100000
set_option maxHeartbeats 4000000
set_option synthInstance.maxHeartbeats 2000000
set_option synthInstance.maxSize 100000
namespace U
open PySem PySem.Spec PyProof.Rows L2
inductive D where
  | non | bl (b : Bool) | int (i : Int) | str (x : Str) | lst (xs : List D) | tup (xs : List D) | ins (C : Addr) (ns : List Str) (xs : List D)
  | ptr (a : Addr) | ty (n : String) | opq (a : Addr) (o : HO) | ftp (xs : List D)
mutual
/-- v is the datum d in H; no object of it stands in S -/
inductive Dt (S : Addr → Prop) (H : Hp) : V → D → Prop
  | non : Dt S H .non .non
  | bl (b : Bool) : Dt S H (.bl b) (.bl b)
  | int (i : Int) : Dt S H (.int i) (.int i)
  | str (x : Str) : Dt S H (.str x) (.str x)
  | lst {a : Addr} {xs : List V} {ds : List D} : ¬ S a → H a = some (.lst xs) → DtA S H xs ds → Dt S H (.ref a) (.lst ds)
  | tup {a : Addr} {xs : List V} {ds : List D} : ¬ S a → H a = some (.tup xs) → DtA S H xs ds → Dt S H (.ref a) (.tup ds)
  | ins {a C dx : Addr} {fs : List (Str × V)} {ns : List Str} {ds : List D} : ¬ S a → H a = some (.ins C dx fs) → fs.map (·.1) = ns → DtA S H (fs.map (·.2)) ds → Dt S H (.ref a) (.ins C ns ds)
  | ptr (a : Addr) : Dt S H (.ref a) (.ptr a)
  | ty (n : String) : Dt S H (.ty n) (.ty n)
  | opq {a : Addr} {o : HO} : ¬ S a → H a = some o → Dt S H (.ref a) (.opq a o)
  /-- a tuple that is known to have no dict -/
  | ftp {a : Addr} {o : Obj} {xs : List V} {ds : List D} : ¬ S a → H a = some (.frz o (.tup xs)) → o.dict = none → DtA S H xs ds → Dt S H (.ref a) (.ftp ds)
inductive DtA (S : Addr → Prop) (H : Hp) : List V → List D → Prop
  | nil : DtA S H [] []
  | cons {v : V} {vs : List V} {d : D} {ds : List D} : Dt S H v d → DtA S H vs ds → DtA S H (v :: vs) (d :: ds)
end
/-- nothing -/
abbrev N0 : Addr → Prop := fun _ => False
/-- H' holds all that H holds, but what stands in S -/
def Ext (S : Addr → Prop) (H H' : Hp) : Prop := ∀ b o, ¬ S b → H b = some o → H' b = some o
section
variable {S S' : Addr → Prop} {H H1 H2 H' : Hp}
theorem Ext.refl (H : Hp) : Ext S H H := fun _ _ _ h => h
theorem Ext.trans (a : Ext S H H1) (b : Ext S H1 H2) : Ext S H H2 := fun c o n h => b c o n (a c o n h)
theorem Ext.of (e : Same H H') : Ext S H H' := fun b o _ h => e b o h
theorem Same.new {p : Addr} {o : HO} (h : H p = none) : Same H (upd H p o) := fun b u e => by
  rw [upd_ne (ne_of_none e h)]
  exact e
theorem Same.snew {p : Addr} {o : HO} (e : Same H H1) (h : H1 p = none) : Same H (upd H1 p o) := e.trans (Same.new h)
theorem Ext.new {p : Addr} {o : HO} (e : Ext S H H1) (h : H1 p = none) : Ext S H (upd H1 p o) := e.trans (Ext.of (Same.new h))
theorem Ext.mut {p : Addr} {o : HO} (e : Ext S H H1) (h : S p) : Ext S H (upd H1 p o) := fun b u n hb => by
  rw [upd_ne (fun z => n (by rw [z]; exact h))]
  exact e b u n hb
theorem Ext.less (e : Ext S H H1) (h : ∀ a, S a → S' a) : Ext S' H H1 := fun b o n hb => e b o (fun z => n (h b z)) hb
/-- all but one that was not there -/
theorem Ext.same {l : Addr} (e : Ext (fun a => a = l) H H1) (hl : H l = none) : Same H H1 := fun b o h => e b o (fun z => by rw [z, hl] at h; cases h) h
mutual
theorem Dt.mono (e : Ext S H H') : ∀ (d : D) {v : V}, Dt S H v d → Dt S H' v d
  | .non, _, h => by cases h; exact .non
  | .bl b, _, h => by cases h; exact .bl b
  | .int i, _, h => by cases h; exact .int i
  | .str x, _, h => by cases h; exact .str x
  | .lst ds, _, h => by
    cases h with
    | lst n ha hs => exact .lst n (e _ _ n ha) (DtA.mono e ds hs)
  | .tup ds, _, h => by
    cases h with
    | tup n ha hs => exact .tup n (e _ _ n ha) (DtA.mono e ds hs)
  | .ins C ns ds, _, h => by
    cases h with
    | ins n ha hn hs => exact .ins n (e _ _ n ha) hn (DtA.mono e ds hs)
  | .ptr a, _, h => by cases h; exact .ptr a
  | .ty n, _, h => by cases h; exact .ty n
  | .opq a o, _, h => by
    cases h with
    | opq n ha => exact .opq n (e _ _ n ha)
  | .ftp ds, _, h => by
    cases h with
    | ftp n ha hd hs => exact .ftp n (e _ _ n ha) hd (DtA.mono e ds hs)
theorem DtA.mono (e : Ext S H H') : ∀ (ds : List D) {vs : List V}, DtA S H vs ds → DtA S H' vs ds
  | [], _, h => by cases h; exact .nil
  | d :: ds, _, h => by
    cases h with
    | cons h1 h2 => exact .cons (Dt.mono e d h1) (DtA.mono e ds h2)
end
mutual
/-- another set of what may change -/
theorem Dt.set (f : ∀ a, ¬ S a → H a ≠ none → ¬ S' a) : ∀ (d : D) {v : V}, Dt S H v d → Dt S' H v d
  | .non, _, h => by cases h; exact .non
  | .bl b, _, h => by cases h; exact .bl b
  | .int i, _, h => by cases h; exact .int i
  | .str x, _, h => by cases h; exact .str x
  | .lst ds, _, h => by
    cases h with
    | lst n ha hs => exact .lst (f _ n (by rw [ha]; exact fun z => nomatch z)) ha (DtA.set f ds hs)
  | .tup ds, _, h => by
    cases h with
    | tup n ha hs => exact .tup (f _ n (by rw [ha]; exact fun z => nomatch z)) ha (DtA.set f ds hs)
  | .ins C ns ds, _, h => by
    cases h with
    | ins n ha hn hs => exact .ins (f _ n (by rw [ha]; exact fun z => nomatch z)) ha hn (DtA.set f ds hs)
  | .ptr a, _, h => by cases h; exact .ptr a
  | .ty n, _, h => by cases h; exact .ty n
  | .opq a o, _, h => by
    cases h with
    | opq n ha => exact .opq (f _ n (by rw [ha]; exact fun z => nomatch z)) ha
  | .ftp ds, _, h => by
    cases h with
    | ftp n ha hd hs => exact .ftp (f _ n (by rw [ha]; exact fun z => nomatch z)) ha hd (DtA.set f ds hs)
theorem DtA.set (f : ∀ a, ¬ S a → H a ≠ none → ¬ S' a) : ∀ (ds : List D) {vs : List V}, DtA S H vs ds → DtA S' H vs ds
  | [], _, h => by cases h; exact .nil
  | d :: ds, _, h => by
    cases h with
    | cons h1 h2 => exact .cons (Dt.set f d h1) (DtA.set f ds h2)
end
theorem Dt.go {d : D} {v : V} (h : Dt S H v d) (e : Ext S H H') : Dt S H' v d := Dt.mono e d h
theorem Dt.sm {d : D} {v : V} (h : Dt S H v d) (e : Same H H') : Dt S H' v d := Dt.mono (Ext.of e) d h
theorem DtA.go {d : List D} {v : List V} (h : DtA S H v d) (e : Ext S H H') : DtA S H' v d := DtA.mono e d h
theorem DtA.sm {d : List D} {v : List V} (h : DtA S H v d) (e : Same H H') : DtA S H' v d := DtA.mono (Ext.of e) d h
/-- a new object may change from now on -/
theorem Dt.fresh {d : D} {v : V} {l : Addr} (h : Dt S H v d) (hl : H l = none) : Dt (fun a => S a ∨ a = l) H v d :=
  Dt.set (fun a n k z => z.elim n fun q => k (by rw [q]; exact hl)) d h
/-- nothing changes any more -/
theorem Dt.n0 {d : D} {v : V} (h : Dt S H v d) : Dt N0 H v d := Dt.set (fun _ _ _ z => z) d h
theorem DtA.n0 {d : List D} {v : List V} (h : DtA S H v d) : DtA N0 H v d := DtA.set (fun _ _ _ z => z) d h
theorem DtA.length : ∀ {vs : List V} {ds : List D}, DtA S H vs ds → vs.length = ds.length
  | _, _, .nil => rfl
  | _, _, .cons _ t => congrArg Nat.succ (DtA.length t)
theorem DtA.append : ∀ {vs ws : List V} {ds es : List D}, DtA S H vs ds → DtA S H ws es → DtA S H (vs ++ ws) (ds ++ es)
  | _, _, _, _, .nil, k => k
  | _, _, _, _, .cons h t, k => .cons h (DtA.append t k)
theorem DtA.snoc {vs : List V} {ds : List D} {v : V} {d : D} (h : DtA S H vs ds) (k : Dt S H v d) : DtA S H (vs ++ [v]) (ds ++ [d]) := h.append (.cons k .nil)
theorem DtA.get : ∀ {vs : List V} {ds : List D} {i : Nat} {d : D}, DtA S H vs ds → ds[i]? = some d → ∃ v, vs[i]? = some v ∧ Dt S H v d
  | _, _, _, _, .nil, e => by simp at e
  | _, _, 0, _, .cons h _, e => by
    simp at e
    subst e
    exact ⟨_, rfl, h⟩
  | _, _, i + 1, d, .cons _ t, e => by
    obtain ⟨v, h1, h2⟩ := DtA.get (i := i) (d := d) t (by simpa using e)
    exact ⟨v, by simpa using h1, h2⟩
theorem DtA.getV : ∀ {vs : List V} {ds : List D} {i : Nat} {v : V}, DtA S H vs ds → vs[i]? = some v → ∃ d, ds[i]? = some d ∧ Dt S H v d
  | _, _, _, _, .nil, e => by simp at e
  | _, _, 0, _, .cons h _, e => by
    simp at e
    subst e
    exact ⟨_, rfl, h⟩
  | _, _, i + 1, d, .cons _ t, e => by
    obtain ⟨v, h1, h2⟩ := DtA.getV (i := i) (v := d) t (by simpa using e)
    exact ⟨v, by simpa using h1, h2⟩
theorem DtA.take : ∀ {vs : List V} {ds : List D} (n : Nat), DtA S H vs ds → DtA S H (vs.take n) (ds.take n)
  | _, _, 0, _ => .nil
  | _, _, _ + 1, .nil => .nil
  | _, _, n + 1, .cons h t => .cons h (DtA.take n t)
theorem DtA.drop : ∀ {vs : List V} {ds : List D} (n : Nat), DtA S H vs ds → DtA S H (vs.drop n) (ds.drop n)
  | _, _, 0, h => h
  | _, _, _ + 1, .nil => .nil
  | _, _, n + 1, .cons _ t => DtA.drop n t
theorem DtA.reverse : ∀ {vs : List V} {ds : List D}, DtA S H vs ds → DtA S H vs.reverse ds.reverse
  | _, _, .nil => .nil
  | _, _, .cons h t => by
    rw [List.reverse_cons, List.reverse_cons]
    exact (DtA.reverse t).snoc h
theorem DtA.strs_eq : ∀ {vs : List V} {l : List Str}, DtA S H vs (l.map D.str) → vs = l.map V.str
  | _, [], h => by cases h; rfl
  | _, x :: l, h => by
    cases h with
    | cons h1 h2 =>
      cases h1
      rw [DtA.strs_eq h2]
      rfl
theorem DtA.ints_eq : ∀ {vs : List V} {l : List Int}, DtA S H vs (l.map D.int) → vs = l.map V.int
  | _, [], h => by cases h; rfl
  | _, x :: l, h => by
    cases h with
    | cons h1 h2 =>
      cases h1
      rw [DtA.ints_eq h2]
      rfl
theorem DtA.bls_eq : ∀ {vs : List V} {l : List Bool}, DtA S H vs (l.map D.bl) → vs = l.map V.bl
  | _, [], h => by cases h; rfl
  | _, x :: l, h => by
    cases h with
    | cons h1 h2 =>
      cases h1
      rw [DtA.bls_eq h2]
      rfl
end
mutual
def D.flat : D → Bool
  | .lst _ => false
  | .tup ds => D.flats ds
  | .ins _ _ ds => D.flats ds
  | .opq _ _ => false
  | .ftp _ => false
  | _ => true
def D.flats : List D → Bool
  | [] => true
  | d :: ds => D.flat d && D.flats ds
end
mutual
theorem Dt.nl {H : Hp} {l : Addr} {xs : List V} (hl : H l = some (.lst xs)) : ∀ (d : D) {v : V}, D.flat d = true → Dt N0 H v d → Dt (fun a => a = l) H v d
  | .non, _, _, h => by cases h; exact .non
  | .bl b, _, _, h => by cases h; exact .bl b
  | .int i, _, _, h => by cases h; exact .int i
  | .str x, _, _, h => by cases h; exact .str x
  | .lst ds, _, f, _ => by rw [D.flat] at f; cases f
  | .tup ds, _, f, h => by
    rw [D.flat] at f
    cases h with
    | tup n ha hs => exact .tup (fun z => by rw [z, hl] at ha; cases ha) ha (DtA.nl hl ds f hs)
  | .ins C ns ds, _, f, h => by
    rw [D.flat] at f
    cases h with
    | ins n ha hn hs => exact .ins (fun z => by rw [z, hl] at ha; cases ha) ha hn (DtA.nl hl ds f hs)
  | .ptr a, _, _, h => by cases h; exact .ptr a
  | .ty n, _, _, h => by cases h; exact .ty n
  | .opq a o, _, f, h => by rw [D.flat] at f; cases f
  | .ftp ds, _, f, h => by rw [D.flat] at f; cases f
theorem DtA.nl {H : Hp} {l : Addr} {xs : List V} (hl : H l = some (.lst xs)) : ∀ (ds : List D) {vs : List V}, D.flats ds = true → DtA N0 H vs ds → DtA (fun a => a = l) H vs ds
  | [], _, _, h => by cases h; exact .nil
  | d :: ds, _, f, h => by
    rw [D.flats, Bool.and_eq_true] at f
    cases h with
    | cons h1 h2 => exact .cons (Dt.nl hl d f.1 h1) (DtA.nl hl ds f.2 h2)
end
mutual
def D.py : D → Option PyData
  | .non => some .none
  | .bl b => some (.bool b)
  | .int i => some (.int i)
  | .str x => some (.str x)
  | .lst ds => (D.pys ds).map .list
  | .tup ds => (D.pys ds).map .tuple
  | .ftp ds => (D.pys ds).map .tuple
  | _ => none
def D.pys : List D → Option (List PyData)
  | [] => some []
  | d :: ds => match D.py d, D.pys ds with
    | some p, some q => some (p :: q)
    | _, _ => none
end
mutual
theorem Dt.dp {K : PySem.W.Frag} {S : Addr → Prop} {H : Hp} : ∀ (d : D) {v : V} {p : PyData}, Dt S H v d → D.py d = some p → Dp K H v p
  | .non, _, _, h, e => by cases h; cases e; exact .non
  | .bl b, _, _, h, e => by cases h; cases e; exact .bl b
  | .int i, _, _, h, e => by cases h; cases e; exact .int i
  | .str x, _, _, h, e => by cases h; cases e; exact .str x
  | .lst ds, _, _, h, e => by
    cases h with
    | lst n ha hs =>
      rw [D.py] at e
      cases q : D.pys ds with
      | none => rw [q] at e; cases e
      | some l =>
        rw [q] at e
        cases e
        exact .lst (SqL.of ha) (DtA.dp ds hs q)
  | .tup ds, _, _, h, e => by
    cases h with
    | tup n ha hs =>
      rw [D.py] at e
      cases q : D.pys ds with
      | none => rw [q] at e; cases e
      | some l =>
        rw [q] at e
        cases e
        exact .tup (SqT.of ha) (DtA.dp ds hs q)
  | .ins C ns ds, _, _, h, e => by rw [D.py] at e <;> first | cases e | (intros; contradiction)
  | .ptr a, _, _, h, e => by rw [D.py] at e <;> first | cases e | (intros; contradiction)
  | .ty a, _, _, h, e => by rw [D.py] at e <;> first | cases e | (intros; contradiction)
  | .opq a o, _, _, h, e => by rw [D.py] at e <;> first | cases e | (intros; contradiction)
  | .ftp ds, _, _, h, e => by
    cases h with
    | ftp n ha hd hs =>
      rw [D.py] at e
      cases q : D.pys ds with
      | none => rw [q] at e; cases e
      | some l =>
        rw [q] at e
        cases e
        exact .tup (Or.inl (Or.inr ⟨_, ha⟩)) (DtA.dp ds hs q)
theorem DtA.dp {K : PySem.W.Frag} {S : Addr → Prop} {H : Hp} : ∀ (ds : List D) {vs : List V} {ps : List PyData}, DtA S H vs ds → D.pys ds = some ps → DpAll K H vs ps
  | [], _, _, h, e => by cases h; rw [D.pys] at e; cases e; exact .nil
  | d :: ds, _, _, h, e => by
    cases h with
    | cons h1 h2 =>
      rw [D.pys] at e
      cases q1 : D.py d with
      | none => rw [q1] at e; cases e
      | some p =>
        cases q2 : D.pys ds with
        | none => rw [q1, q2] at e; cases e
        | some ps =>
          rw [q1, q2] at e
          cases e
          exact .cons (Dt.dp d h1 q1) (DtA.dp ds h2 q2)
end
end U
namespace U
open PySem PySem.Spec PyProof.Rows L2
/-- a def's promise where no show is under way -/
structure FnG (P : Program) (w : World) (K : PySem.W.Frag) (mg : Str → Option Value) (base : Heap) (k : Nat) (f : Addr) (fd : FuncData) (ps : List Str) (sp : Sp) : Prop where
  len : ∀ vs H Q E, sp vs H Q E → vs.length = ps.length
  run : ∀ (A : Around) (outer : List Env) (s : Shared) (H : Hp) (args : Args) (us : List Value) (vs : List V) (Q : VK) (E : XK), Room k A → A.guards = some [] →
    Env0 P w K mg base A outer s H → BindsTo s fd args (ps.zip us) → Vals vs us → sp vs H Q E → codeAny (model P w) A (.call (.ref f) args) (CR L2.CX0 outer P w H s Q E) s
section
variable {P : Program} {w : World} {K : PySem.W.Frag} {mg : Str → Option Value} {base : Heap} {x qual : Str} {st : Stmt} {f : Addr} {fd : FuncData} {N ps : List Str} {k : Nat} {sp : Sp}
/-- by its body -/
theorem fnG_of (F : L2.Fun K x qual st f fd) (S : FnScope N ps (L2.defScope st)) (len : ∀ vs H Q E, sp vs H Q E → vs.length = ps.length)
    (hb : ∀ (cdv : Value) (A : Around) (outer : List Env) (s : Shared) (H : Hp) (vs : List V) (Q : VK) (E : XK), Room k (A.deeper (envOfC qual (L2.defScope st) s.heap.objs.size f cdv)) → A.guards = some [] → sp vs H Q E →
      ∃ t, PSs (cxOf L2.CX0 P w K mg base N qual (L2.defScope st) f cdv A outer s H E).nox (L2.defBody st) t ∧ t { nx := fun _ H' => Q .non H', rt := Q } (start N vs) H) :
    FnG P w K mg base (k + 1) f fd ps sp := by
  obtain ⟨oc, od, kV, doc, pm, an, cdv, ct, osl, rfl, lk, hcd⟩ := F.ex
  refine ⟨len, fun A outer s H args us vs Q E hr hg e0 hbd r hsp => ?_⟩
  have hl : vs.length = ps.length := len _ _ _ _ hsp
  have KX : K.In s.heap := e0.mod.kin.keeps (fun b o e => (e0.bs b o e).1)
  have lim : s.heap.NoLimit := e0.mod.nolimit.keeps (fun b o e => (e0.bs b o e).1)
  have kinds : ∀ y ∈ ps.zip us, (L2.defScope st).names.lookup y.1 = some .local ∨ ((L2.defScope st).names.lookup y.1 = some .cell ∧ ((cellsFrom (s.heap.objs.size + 1) (L2.defScope st).names []).lookup y.1).isSome = true) := by
    rintro ⟨n, v⟩ hy
    rcases S.par n (List.of_mem_zip hy).1 with q | q
    · exact Or.inl q
    · exact Or.inr ⟨q, PySem.W.cellsFrom_some _ _ _ (Or.inl q)⟩
  have lkd := KX _ _ lk
  have crec := PySem.W.codeRec_of KX hcd
  refine codeAny_call_function hr.depth lkd rfl S.co S.gen rfl crec (hbd _ _ _ _ ?_)
  refine wpAny_newFunctionEnv_cells S.kind kinds (fun env he s1 z => ?_)
  subst he
  refine ⟨lim.keeps z.toInCall.keep, codeAny_func ?_⟩
  have hr1 := hr.deeper (envOfC qual (L2.defScope st) s.heap.objs.size f cdv)
  obtain ⟨t, ht0, hq⟩ := hb cdv A outer s H vs Q E hr1 hg hsp
  have ht := ht0.nox
  have I := inv_start (CX := L2.CX0) (E := E) S hr.hd e0 hl r z
  have go := ht.run [] s1 (start N vs) H _ I hq
  refine wpAny_mono go ?_ (fun e s' hs => hs)
  intro fl s' hs
  cases fl with
  | next =>
    obtain ⟨σ', H', J, q⟩ := hs
    exact ⟨V.non, H', J.os, J.bare, J.base, J.hok, rfl, q⟩
  | brk =>
    obtain ⟨_, _, _, q⟩ := hs
    exact q.elim
  | cont =>
    obtain ⟨_, _, _, q⟩ := hs
    exact q.elim
  | ret u =>
    obtain ⟨v, σ', H', J, rv, q⟩ := hs
    exact ⟨v, H', J.os, J.bare, J.base, J.hok, rv, q⟩
end
section
variable {X : Cx} {k : Nat} {f C : Addr} {fd : FuncData} {ps ks : List Str} {sp : Sp} {x : Str} {p pos : Pos} {e : Expr} {es : List Expr} {t tk : TA} {kws : List Keyword}
/-- x(e, ..), x a def with such a promise -/
theorem pe_callG (F : FnG X.prog X.w X.K X.mg X.base k f fd ps sp) (hr : Room k X.A) (hgd : X.A.guards = some []) (hg : Gl X x) (hm : X.mg x = some (.ref f)) (hk : PySem.W.keepIn X.K (.ref f) = true) (hb : Binds X.K fd ps [])
    (ha : PA X (e :: es) t) (hdb : (x == ("__debug__" : Str)) = false := by decide) (he : starEach (e :: es) X.env = (false, eval e X.env) :: starEach es X.env := by rfl) (hpl : (backTo pos (starEach es X.env)).any (·.1) = false := by rfl) :
    PE X (.Call (.Name x p) (e :: es) [] pos) (tCall sp [] L2.E0 t) := by
  refine ⟨fun pins s σ H Q I h => wpAny_Call_Name_kw (ld_glob I hg hm ?_ hdb)⟩
  have ga := thn (ha.run pos pins s σ H _ I h) (Q' := fun us s1 => X.K.In s1.heap ∧ wpAny (model X.prog X.w) X.A (call (.ref f) us) (EP X pins σ Q) X.xe s1) (fun us s1 hh => by
    obtain ⟨vs, H1, I1, r, q⟩ := hh
    rw [List.append_nil] at q
    refine ⟨I1.kIn, ?_⟩
    have hl : (us ++ []).length = ps.length := by rw [List.append_nil, ← r.length]; exact F.len _ _ _ _ q
    have hbt := hb s1 us I1.kIn hl
    rw [List.append_nil] at hbt
    refine wpAny_call (codeAny_mono (F.run X.A X.stack s1 H1 ⟨us, []⟩ us vs Q L2.E0 hr hgd I1.env0 hbt r q) ?_)
    intro r' s' hq
    cases r' with
    | error z => exact False.elim hq
    | ok fl =>
      cases fl with
      | ret u => exact I1.after hq
      | next => exact False.elim hq
      | brk => exact False.elim hq
      | cont => exact False.elim hq)
  exact PySem.W.callWith_K (h₀ := X.base) I.ok.mod.kin hk ga he hpl
end
def rRepr (K : PySem.W.Frag) : List V → Hp → VK → Prop := fun xs H Q => ∃ (v : V) (p : PyData), xs = [v] ∧ Dp K H v p ∧ PyData.showable p = true ∧ PyData.hasDict p = false ∧ PyData.depth p ≤ 40 ∧ (PyData.shown p).length ≤ sizeLine ∧ Q (.str (PyData.shown p)) H
end U
namespace U
open PySem PySem.Spec PyProof.Rows L2
section
variable {P : Program} {w : World} {H H1 H2 : Hp} {h h' : Heap} {p : Addr} {o : HO} {φ : Heap → Prop} {fs ex : List Addr}
theorem hok_in (ok : HOk P w H h) (hp : H p = some (.ext φ)) (new : ObjOk P w (upd H p o) h p o) : HOk P w (upd H p o) h := by
  intro b u e
  by_cases hb : b = p
  · subst hb
    rw [upd_same] at e
    cases e
    exact new
  · rw [upd_ne hb] at e
    refine (ok b u e).stay (fun c v _ q => q) (fun c q => ?_) (fun c xs q => ?_)
    · rw [upd_ne (fun z => by rw [z, hp] at q; cases q)]
      exact q
    · rw [upd_ne (fun z => by rw [z, hp] at q; cases q)]
      exact q
theorem hok_out {xs : List V} (ok : HOk P w H h) (hp : H p = some (.lst xs)) (hφ : φ h) (st : ∀ h1 h2 : Heap, φ h1 → (∀ u, h1.get? p = some u → h2.get? p = some u) → φ h2) : HOk P w (upd H p (.ext φ)) h := by
  intro b u e
  by_cases hb : b = p
  · subst hb
    rw [upd_same] at e
    cases e
    obtain ⟨_, its, n, _, z⟩ := ok _ _ hp
    exact ⟨hφ, ⟨_, z⟩, st⟩
  · rw [upd_ne hb] at e
    refine (ok b u e).stay (fun c v _ q => q) (fun c q => ?_) (fun c xs q => ?_)
    · rw [upd_ne (fun z => by rw [z, hp] at q; cases q)]
      exact q
    · rw [upd_ne (fun z => by rw [z, hp] at q; cases q)]
      exact q
theorem un_in (u : Un fs ex (upd H p o) H1 h h') (hp : H p = some (.ext φ)) : Un fs ex H H1 h h' := by
  have nn : ∀ b, H b = none → upd H p o b = none := fun b n => by
    rw [upd_ne (fun z => by rw [z, hp] at n; cases n)]
    exact n
  have ne : ∀ b v, H b = some v → (∀ ψ, v ≠ .ext ψ) → upd H p o b = some v := fun b v e n => by
    rw [upd_ne (fun z => by rw [z, hp] at e; cases e; exact n _ rfl)]
    exact e
  exact ⟨fun b v e n => u.keep b v e (nn b n), fun b v e n => u.slot b v e (nn b n), fun b v e n => u.free b v e (nn b n), u.there,
    fun b xs e => u.tups b xs (ne b _ e (fun _ z => nomatch z)), fun b v t e => u.frzs b v t (ne b _ e (fun _ z => nomatch z)), fun b ps e => u.tbls b ps (ne b _ e (fun _ z => nomatch z))⟩
theorem un_out {xs : List V} (u : Un fs ex H H1 h h') (hp : H1 p = some (.lst xs)) : Un fs ex H (upd H1 p (.ext φ)) h h' := by
  have ne : ∀ b v, H1 b = some v → (∀ ys, v ≠ .lst ys) → upd H1 p (.ext φ) b = some v := fun b v e n => by
    rw [upd_ne (fun z => by rw [z, hp] at e; cases e; exact n _ rfl)]
    exact e
  refine ⟨u.keep, u.slot, fun b v e n hx => ?_, u.there, fun b xs e => ne b _ (u.tups b xs e) (fun _ z => nomatch z), fun b v t e => ne b _ (u.frzs b v t e) (fun _ z => nomatch z), fun b ps e => ?_⟩
  · have z := u.free b v e n hx
    rw [upd_ne (fun q => by rw [q, hp] at z; cases z)]
    exact z
  · obtain ⟨m, e1⟩ := u.tbls b ps e
    exact ⟨m, ne b _ e1 fun _ z => nomatch z⟩
end
def potP (p : Addr) : Heap → Prop := fun h => ∃ (a b c : Int) (its : List Value) (n : Nat), Vals [.int a, .int b, .int c] its ∧ h.get? p = some { cls := .type "list", data := .seq its.toArray n }
def potO (p : Addr) : HO := .ext (potP p)
def Pot (H : Hp) (p : Addr) : Prop := H p = some (potO p)
def potL (a b c : Int) : HO := .lst [.int a, .int b, .int c]
theorem pot_st {p : Addr} : ∀ h1 h2 : Heap, potP p h1 → (∀ u, h1.get? p = some u → h2.get? p = some u) → potP p h2 := fun h1 h2 ⟨a, b, c, its, n, v, e⟩ k => ⟨a, b, c, its, n, v, k _ e⟩
theorem Pot.sm {H H' : Hp} {p : Addr} (h : Pot H p) (e : Same H H') : Pot H' p := e _ _ h
theorem Pot.go {S : Addr → Prop} {H H' : Hp} {p : Addr} (h : Pot H p) (e : Ext S H H') (n : ¬ S p) : Pot H' p := e _ _ n h
section
variable {P : Program} {w : World} {K : PySem.W.Frag} {mg : Str → Option Value} {base : Heap} {k : Nat} {f : Addr} {fd : FuncData} {ps : List Str} {sp sp' : Sp}
/-- a def that changes the pot: from its promise over the list itself -/
theorem fn_pot (F : FnOk P w K mg base L2.CX0 k f fd ps sp) (len : ∀ vs H Q E, sp' vs H Q E → vs.length = ps.length)
    (go : ∀ vs H Q E, sp' vs H Q E → ∃ p, Pot H p ∧ ∀ a b c, sp vs (upd H p (potL a b c)) (fun v H' => (∃ x y z, H' p = some (potL x y z)) ∧ Q v (upd H' p (potO p))) E) :
    FnOk P w K mg base L2.CX0 k f fd ps sp' := by
  refine ⟨len, fun A outer s H args us vs Q E hr e0 hb r hsp => ?_⟩
  obtain ⟨p, hp, g⟩ := go _ _ _ _ hsp
  obtain ⟨⟨a, b, c, its, n, rv, hget⟩, _, _⟩ := e0.hok p _ hp
  have np : ∀ b, H b = none → upd H p (potL a b c) b = none := fun b z => by
    rw [upd_ne (fun q => by rw [q, hp] at z; cases z)]
    exact z
  have np' : ∀ q, H q = none → upd H p (potL a b c) q = none := fun q z => by
    rw [upd_ne (fun t => by rw [t, hp] at z; cases z)]
    exact z
  have e1 : Env0 P w K mg base A outer s (upd H p (potL a b c)) :=
    ⟨e0.frames, e0.mod, fun q o e => ⟨(e0.bs q o e).1, np' q (e0.bs q o e).2⟩, e0.bsz, e0.funs, fun q hq => np' q (e0.frf q hq), hok_in e0.hok hp ⟨by show 3 ≤ sizeLine; decide, its, n, rv, hget⟩, e0.bare⟩
  refine codeAny_mono (F.run A outer s _ args us vs _ E hr e1 hb r (g a b c)) ?_
  intro r' s' hq
  cases r' with
  | error z => exact hq
  | ok fl =>
    cases fl with
    | next => exact hq
    | brk => exact hq
    | cont => exact hq
    | ret u =>
      obtain ⟨v, H', os, bare, un, hok', rel, ⟨x, y, z, hx⟩, q⟩ := hq
      have un2 := un_out (φ := potP p) (un_in un hp) hx
      obtain ⟨_, its', n', rv', e'⟩ := hok' p _ hx
      exact ⟨v, _, os, bare, un2, hok_out hok' hx ⟨x, y, z, its', n', rv', e'⟩ pot_st, rel, q⟩
/-- a def that makes a pot -/
theorem fn_potOut (F : FnOk P w K mg base L2.CX0 k f fd ps sp) (len : ∀ vs H Q E, sp' vs H Q E → vs.length = ps.length)
    (go : ∀ vs H Q E, sp' vs H Q E → sp vs H (fun v H' => ∃ p x y z, H' p = some (potL x y z) ∧ Q v (upd H' p (potO p))) E) :
    FnOk P w K mg base L2.CX0 k f fd ps sp' := by
  refine ⟨len, fun A outer s H args us vs Q E hr e0 hb r hsp => ?_⟩
  refine codeAny_mono (F.run A outer s _ args us vs _ E hr e0 hb r (go _ _ _ _ hsp)) ?_
  intro r' s' hq
  cases r' with
  | error z => exact hq
  | ok fl =>
    cases fl with
    | next => exact hq
    | brk => exact hq
    | cont => exact hq
    | ret u =>
      obtain ⟨v, H', os, bare, un, hok', rel, p, x, y, z, hx, q⟩ := hq
      obtain ⟨_, its', n', rv', e'⟩ := hok' p _ hx
      exact ⟨v, _, os, bare, un_out (φ := potP p) un hx, hok_out hok' hx ⟨x, y, z, its', n', rv', e'⟩ pot_st, rel, q⟩
end
/-- a draw: a number below n -/
def spDraw : Sp := fun vs H Q _ => ∃ (p : Addr) (n : Int), vs = [.ref p, .int n] ∧ Pot H p ∧ (0 < n ∧ n < 1073741824) ∧ ∀ (r : Int) (H' : Hp), Same H H' → 0 ≤ r → r < n → Q (.int r) H'
/-- .. over the list itself -/
def spDraw1 : Sp := fun vs H Q _ => ∃ (p : Addr) (n a b c : Int), vs = [.ref p, .int n] ∧ H p = some (potL a b c) ∧ (0 < n ∧ n < 1073741824) ∧
  ∀ (r x y z : Int) (H' : Hp), Ext (fun q => q = p) H H' → H' p = some (potL x y z) → 0 ≤ r → r < n → Q (.int r) H'
theorem fn_draw {P : Program} {w : World} {K : PySem.W.Frag} {mg : Str → Option Value} {base : Heap} {k : Nat} {f : Addr} {fd : FuncData} {ps : List Str} (F : FnOk P w K mg base L2.CX0 k f fd ps spDraw1) (h2 : ps.length = 2) : FnOk P w K mg base L2.CX0 k f fd ps spDraw := by
  refine fn_pot F (fun vs H Q E h => ?_) (fun vs H Q E h => ?_)
  · obtain ⟨p, n, rfl, _⟩ := h
    rw [h2]
    rfl
  · obtain ⟨p, n, rfl, hp, hn, q⟩ := h
    refine ⟨p, hp, fun a b c => ⟨p, n, a, b, c, rfl, upd_same, hn, fun r x y z H' e hx h0 h1 => ⟨⟨x, y, z, hx⟩, q r _ (fun c o hc => ?_) h0 h1⟩⟩⟩
    by_cases hb : c = p
    · subst hb
      rw [show H c = some (potO c) from hp] at hc
      cases hc
      exact upd_same
    · rw [upd_ne hb]
      exact e c o hb (by rw [upd_ne hb]; exact hc)
def spPot1 (K : PySem.W.Frag) : Sp := fun vs H Q _ => ∃ (a : Addr) (ns : List Int) (i : Nat), vs = [.ref a, .int i] ∧ SqL K H a (ns.map V.int) ∧ ns.length ≤ 63 ∧ i ≤ 63 ∧
  ∀ (p : Addr) (x y z : Int) (H' : Hp), Same H H' → H p = none → H' p = some (potL x y z) → Q (.ref p) H'
end U
namespace U
open PySem PySem.Spec PyProof.Rows L2
section
variable {X : Cx}
def rAddU : R2 := fun x y H Q => match x, y with
  | .int i, .int j => Q (.int (i + j)) H
  | .str a, .str b => a.length + b.length ≤ sizeLine ∧ Q (.str (a ++ b)) H
  | .ref p, .ref q => ∃ xs ys, H p = some (.lst xs) ∧ H q = some (.lst ys) ∧ xs.length + ys.length ≤ sizeLine ∧ ∀ r, H r = none → Q (.ref r) (upd H r (.lst (xs ++ ys)))
  | _, _ => False
theorem op_addU : OpR X (binaryOp .Add) rAddU := by
  intro pins s σ H x y v u Q I rx ry h
  cases x with
  | int i =>
    cases y with
    | int j => exact op_add pins s σ H _ _ v u Q I rx ry ⟨i, j, rfl, rfl, h⟩
    | _ => exact h.elim
  | str a =>
    cases y with
    | str b => exact op_add_str pins s σ H _ _ v u Q I rx ry ⟨a, b, rfl, rfl, h.1, h.2⟩
    | _ => exact h.elim
  | ref p =>
    cases y with
    | ref q =>
      obtain ⟨xs, ys, h1, h2, h3, h4⟩ := h
      exact op_cat pins s σ H _ _ v u Q I rx ry ⟨p, q, xs, ys, rfl, rfl, h1, h2, h3, h4⟩
    | _ => exact h.elim
  | _ => exact h.elim
/-- == of anything: data by their contents -/
def rEqU (K : PySem.W.Frag) : R2 := fun x y H Q => match x, y with
  | .ref p, .ref q => ∃ d e, Dp K H (.ref p) d ∧ Dp K H (.ref q) e ∧ SeqAt.shaped d = true ∧ SeqAt.shaped e = true ∧ Q (.bl (PyData.eqv d e)) H
  | x, y => scal x y = true ∧ Q (.bl (decide (x = y))) H
def rNeU (K : PySem.W.Frag) : R2 := fun x y H Q => match x, y with
  | .ref p, .ref q => ∃ d e, Dp K H (.ref p) d ∧ Dp K H (.ref q) e ∧ SeqAt.shaped d = true ∧ SeqAt.shaped e = true ∧ Q (.bl (!PyData.eqv d e)) H
  | x, y => scal x y = true ∧ Q (.bl (!decide (x = y))) H
theorem op_eqU (hu : X.A.units + 64 < cLine) : OpR X (compareOp .Eq) (rEqU X.K) := by
  intro pins s σ H x y v u Q I rx ry h
  by_cases c : ∃ p q, x = .ref p ∧ y = .ref q
  · obtain ⟨p, q, rfl, rfl⟩ := c
    exact op_eqD hu pins s σ H _ _ v u Q I rx ry h
  · have h' : scal x y = true ∧ Q (.bl (decide (x = y))) H := by
      cases x <;> first | exact h | (cases y <;> first | exact h | exact (c ⟨_, _, rfl, rfl⟩).elim)
    exact op_eq pins s σ H _ _ v u Q I rx ry h'
def rLtU : R2 := fun x y H Q => match x, y with
  | .int i, .int j => Q (.bl (decide (i < j))) H
  | .str i, .str j => Q (.bl (decide (i.cps.toList < j.cps.toList))) H
  | _, _ => False
theorem op_ltU : OpR X (compareOp .Lt) rLtU := by
  intro pins s σ H x y v u Q I rx ry h
  cases x with
  | int i =>
    cases y with
    | int j => exact op_lt pins s σ H _ _ v u Q I rx ry ⟨i, j, rfl, rfl, h⟩
    | _ => exact h.elim
  | str a =>
    cases y with
    | str b => exact op_lt_str pins s σ H _ _ v u Q I rx ry ⟨a, b, rfl, rfl, h⟩
    | _ => exact h.elim
  | _ => exact h.elim
/-- in, not in: a sign in a text, a flat thing in a list or tuple of flat things -/
def rInU (K : PySem.W.Frag) : R2 := fun x y H Q => match y with
  | .str z => ∃ c, x = .str ⟨#[c]⟩ ∧ Q (.bl (decide (c ∈ z.cps.toList))) H
  | .ref p => ∃ xs, (SqL K H p xs ∨ SqT K H p xs) ∧ flatV x = true ∧ xs.all flatV = true ∧ Q (.bl (inV x xs)) H
  | _ => False
def rNinU (K : PySem.W.Frag) : R2 := fun x y H Q => match y with
  | .str z => ∃ c, x = .str ⟨#[c]⟩ ∧ Q (.bl (!decide (c ∈ z.cps.toList))) H
  | .ref p => ∃ xs, (SqL K H p xs ∨ SqT K H p xs) ∧ flatV x = true ∧ xs.all flatV = true ∧ Q (.bl (!inV x xs)) H
  | _ => False
theorem op_inU : OpR X (compareOp .In) (rInU X.K) := by
  intro pins s σ H x y v u Q I rx ry h
  cases y with
  | str z =>
    obtain ⟨c, rfl, q⟩ := h
    exact op_in_sign pins s σ H _ _ v u Q I rx ry ⟨c, z, rfl, rfl, q⟩
  | ref p =>
    obtain ⟨xs, h1, h2, h3, q⟩ := h
    exact op_in_seq pins s σ H _ _ v u Q I rx ry ⟨p, xs, rfl, h1, h2, h3, q⟩
  | _ => exact h.elim
theorem op_ninU : OpR X (compareOp .NotIn) (rNinU X.K) := by
  intro pins s σ H x y v u Q I rx ry h
  cases y with
  | str z =>
    obtain ⟨c, rfl, q⟩ := h
    exact op_notIn_sign pins s σ H _ _ v u Q I rx ry ⟨c, z, rfl, rfl, q⟩
  | ref p =>
    obtain ⟨xs, h1, h2, h3, q⟩ := h
    exact op_notIn_seq pins s σ H _ _ v u Q I rx ry ⟨p, xs, rfl, h1, h2, h3, q⟩
  | _ => exact h.elim
/-- x[i] of a list, a tuple, a text -/
def rIxU (K : PySem.W.Frag) : R2 := fun x y H Q => match x, y with
  | .ref p, .int i => ∃ xs v, (SqL K H p xs ∨ SqT K H p xs) ∧ atI xs i = some v ∧ Q v H
  | .str z, .int i => ∃ c, z.length ≤ sizeLine ∧ atI z.cps.toList i = some c ∧ Q (.str ⟨#[c]⟩) H
  | _, _ => False
theorem ix_U : IxR X (rIxU X.K) := by
  intro value slice pins s σ H x y v u Q I rx ry h hs
  refine ix_seq value slice pins s σ H x y v u Q I rx ry ?_ hs
  cases x with
  | ref p =>
    cases y with
    | int i =>
      obtain ⟨xs, w, h1, h2, q⟩ := h
      rcases h1 with h1 | h1
      · exact .inl ⟨p, xs, i, w, rfl, rfl, h1, h2, q⟩
      · exact .inr (.inl ⟨p, xs, i, w, rfl, rfl, h1, h2, q⟩)
    | _ => exact h.elim
  | str z =>
    cases y with
    | int i =>
      obtain ⟨c, h1, h2, q⟩ := h
      exact .inr (.inr ⟨z, i, c, rfl, rfl, h1, h2, q⟩)
    | _ => exact h.elim
  | _ => exact h.elim
/-- x[i:j] of a list, a text, a tuple that is not taken whole -/
def Sli (K : PySem.W.Frag) (H : Hp) (a : Addr) (lo hi : Option Int) (o : HO) : Prop := (∃ xs, SqL K H a xs ∧ o = .lst (cutV xs lo hi)) ∨
  (∃ xs, SqT K H a xs ∧ ¬ (HT.sIx xs.length 0 lo = 0 ∧ HT.sIx xs.length xs.length hi = xs.length) ∧ o = .tup (cutV xs lo hi))
def rSlU (K : PySem.W.Frag) : V → Option Int → Option Int → Hp → VK → Prop := fun x lo hi H Q => match x with
  | .ref a => ∃ o, Sli K H a lo hi o ∧ ∀ p, H p = none → Q (.ref p) (upd H p o)
  | .str z => z.length ≤ sizeLine ∧ Q (.str (cutS z lo hi)) H
  | _ => False
theorem sl_U : SlR X (rSlU X.K) := by
  intro pins s σ H x v vl vu lo hi sl Q I rx hs pl pu h
  cases x with
  | ref a =>
    obtain ⟨o, h, q⟩ := h
    rcases h with ⟨xs, h1, rfl⟩ | ⟨xs, h1, h2, rfl⟩
    · exact sl_list pins s σ H _ v vl vu lo hi sl Q I rx hs pl pu ⟨a, xs, rfl, h1, q⟩
    · exact sl_tup pins s σ H _ v vl vu lo hi sl Q I rx hs pl pu ⟨a, xs, rfl, h1, h2, q⟩
  | str z => exact sl_str pins s σ H _ v vl vu lo hi sl Q I rx hs pl pu ⟨z, rfl, h.1, h.2⟩
  | _ => exact h.elim
theorem sli_l {K : PySem.W.Frag} {H : Hp} {a : Addr} {lo hi : Option Int} {xs : List V} (h : SqL K H a xs) : Sli K H a lo hi (.lst (cutV xs lo hi)) := .inl ⟨xs, h, rfl⟩
def rLenU (K : PySem.W.Frag) : List V → Hp → VK → Prop := fun xs H Q => match xs with
  | [.str z] => z.length ≤ sizeLine ∧ Q (.int z.length) H
  | [.ref p] => ∃ ys, (SqL K H p ys ∨ SqT K H p ys) ∧ Q (.int ys.length) H
  | _ => False
theorem call_lenU : CallR X (.builtin "len") (rLenU X.K) := by
  intro pins s σ H xs us Q I r h
  match xs, h with
  | [.str z], h => exact call_len_str pins s σ H _ us Q I r ⟨z, rfl, h.1, h.2⟩
  | [.ref p], h =>
    obtain ⟨ys, h1, q⟩ := h
    exact call_len_seq pins s σ H _ us Q I r ⟨p, ys, rfl, h1, q⟩
/-- int(n) of an int -/
def rInt1 : List V → Hp → VK → Prop := fun xs H Q => match xs with
  | [.int i] => Q (.int i) H
  | _ => False
theorem call_intU : CallR X (.type "int") rInt1 := by
  intro pins s σ H xs us Q I r h
  match xs, h with
  | [.int i], h => exact call_int1 pins s σ H _ us Q I r (.inl ⟨i, rfl, h⟩)
def rI1 (f : Int → V) : List V → Hp → VK → Prop := fun xs H Q => match xs with
  | [.int i] => Q (f i) H
  | _ => False
def rI2 (f : Int → Int → V) : List V → Hp → VK → Prop := fun xs H Q => match xs with
  | [.int i, .int j] => Q (f i j) H
  | _ => False
theorem call_absU : CallR X (.builtin "abs") (rI1 fun i => .int (if i < 0 then -i else i)) := by
  intro pins s σ H xs us Q I r h
  match xs, h with
  | [.int i], h => exact call_abs pins s σ H _ us Q I r ⟨i, rfl, h⟩
theorem call_maxU (hc : X.calm = true) : CallR X (.builtin "max") (rI2 fun i j => .int (if j > i then j else i)) := by
  intro pins s σ H xs us Q I r h
  match xs, h with
  | [.int i, .int j], h => exact call_max2 hc pins s σ H _ us Q I r ⟨i, j, rfl, h⟩
theorem call_minU (hc : X.calm = true) : CallR X (.builtin "min") (rI2 fun i j => .int (if j < i then j else i)) := by
  intro pins s σ H xs us Q I r h
  match xs, h with
  | [.int i, .int j], h => exact call_min2 hc pins s σ H _ us Q I r ⟨i, j, rfl, h⟩
end
section
variable {σ : L2.St} {H : Hp} {Q : VK} {K : PySem.W.Frag} {D' : Ends}
theorem e_var {i : Nat} : tVar i σ H Q = ∃ v, σ[i]? = some (some v) ∧ Q v H := rfl
theorem e_c {v : V} : tC v σ H Q = Q v H := rfl
theorem e_op {r : R2} {ta tb : TE} : tOp r ta tb σ H Q = ta σ H fun x H1 => tb σ H1 fun y H2 => r x y H2 Q := rfl
theorem e_un {r : V → Hp → VK → Prop} {ta : TE} : tUn r ta σ H Q = ta σ H fun x H1 => r x H1 Q := rfl
theorem e_nil {R : List V → Hp → Prop} : tNil σ H R = R [] H := rfl
theorem e_cons {ta : TE} {tr : TA} {R : List V → Hp → Prop} : tCons ta tr σ H R = ta σ H fun x H1 => tr σ H1 fun xs H2 => R (x :: xs) H2 := rfl
theorem e_cb {r : List V → Hp → VK → Prop} {t : TA} : tCB r t σ H Q = t σ H fun vs H1 => r vs H1 Q := rfl
theorem e_call {sp : Sp} {dvs : List V} {E : XK} {t : TA} : tCall sp dvs E t σ H Q = t σ H fun vs H1 => sp (vs ++ dvs) H1 Q E := rfl
theorem e_tup {t : TA} : tTup t σ H Q = t σ H fun xs H1 => xs.length ≤ sizeLine ∧ ∀ p, H1 p = none → Q (.ref p) (upd H1 p (.tup xs)) := rfl
theorem e_lst {t : TA} : tLst t σ H Q = t σ H fun xs H1 => xs.length ≤ sizeLine ∧ ∀ p, H1 p = none → Q (.ref p) (upd H1 p (.lst xs)) := rfl
theorem e_if {t : TT} {ta tb : TE} : tIf t ta tb σ H Q = t σ H fun c H1 => if c = true then ta σ H1 Q else tb σ H1 Q := rfl
theorem e_andV {ta tb : TE} : tAndV ta tb σ H Q = ta σ H fun x H1 => ∃ c, x = .bl c ∧ if c = true then tb σ H1 Q else Q (.bl false) H1 := rfl
theorem e_orV {ta tb : TE} : tOrV ta tb σ H Q = ta σ H fun x H1 => ∃ c, x = .bl c ∧ if c = true then Q (.bl true) H1 else tb σ H1 Q := rfl
theorem e_notV {ta : TE} : tNotV ta σ H Q = ta σ H fun x H1 => ∃ c, x = .bl c ∧ Q (.bl (!c)) H1 := rfl
theorem e_chain {r r' : R2} {ta tb tc : TE} : tChain r r' ta tb tc σ H Q = ta σ H fun x H1 => tb σ H1 fun y H2 => r x y H2 fun z H3 => ∃ k, z = .bl k ∧ (if k = true then tc σ H3 fun w' H4 => r' y w' H4 Q else Q (.bl false) H3) := rfl
theorem e_test {te : TE} {R : Bool → Hp → Prop} : tTest te σ H R = te σ H fun x H1 => ∃ b, x = .bl b ∧ R b H1 := rfl
theorem e_B {te : TE} {R : Bool → Hp → Prop} : tB te σ H R = te σ H fun x H1 => ∃ b, x = .bl b ∧ R b H1 := rfl
theorem e_and {t u : TT} {R : Bool → Hp → Prop} : tAnd t u σ H R = t σ H fun c H1 => if c = true then u σ H1 R else R false H1 := rfl
theorem e_or {t u : TT} {R : Bool → Hp → Prop} : tOr t u σ H R = t σ H fun c H1 => if c = true then R true H1 else u σ H1 R := rfl
theorem e_not {t : TT} {R : Bool → Hp → Prop} : tNot t σ H R = t σ H fun c H1 => R (!c) H1 := rfl
theorem e_asg {te : TE} {g : TG} : tAsg te g D' σ H = te σ H fun v H1 => g v σ H1 D'.nx := rfl
theorem e_name {i : Nat} {v : V} {R : L2.St → Hp → Prop} : gName i v σ H R = R (σ.set i (some v)) H := rfl
theorem e_seq {t u : TS} : tSeq t u D' σ H = t { D' with nx := u D' } σ H := rfl
theorem e_next : tNext D' σ H = D'.nx σ H := rfl
theorem e_ret {te : TE} : tRet te D' σ H = te σ H D'.rt := rfl
theorem e_ifS {t : TT} {u w : TS} : tIfS t u w D' σ H = t σ H fun c H1 => if c = true then u D' σ H1 else w D' σ H1 := rfl
theorem e_drop {te : TE} : tDrop te D' σ H = te σ H fun _ H1 => D'.nx σ H1 := rfl
theorem e_part {te : TE} {R : Option Int → Hp → Prop} : tPart te σ H R = te σ H fun v H1 => ∃ i, v = .int i ∧ R (some i) H1 := rfl
theorem e_noPart {R : Option Int → Hp → Prop} : tNoPart σ H R = R none H := rfl
theorem e_sl {r : V → Option Int → Option Int → Hp → VK → Prop} {te : TE} {tl th : TO} : tSl r te tl th σ H Q = te σ H fun x H1 => tl σ H1 fun lo H2 => th σ H2 fun hi H3 => r x lo hi H3 Q := rfl
theorem e_I0 {f : Int → Int → V} {i j : Int} : rI0 f (.int i) (.int j) H Q = Q (f i j) H := by
  apply propext
  constructor
  · rintro ⟨a, b, h1, h2, q⟩
    cases h1
    cases h2
    exact q
  · exact fun q => ⟨i, j, rfl, rfl, q⟩
theorem e_I {C : Int → Int → Prop} {f : Int → Int → V} {i j : Int} : rI C f (.int i) (.int j) H Q = (C i j ∧ Q (f i j) H) := by
  apply propext
  constructor
  · rintro ⟨a, b, h1, h2, q⟩
    cases h1
    cases h2
    exact q
  · exact fun q => ⟨i, j, rfl, rfl, q⟩
theorem e_exbl {b : Bool} {R : Bool → Prop} : (∃ c, V.bl b = V.bl c ∧ R c) = R b := by
  apply propext
  constructor
  · rintro ⟨c, h, r⟩
    cases h
    exact r
  · exact fun r => ⟨b, rfl, r⟩
theorem e_exint {b : Int} {R : Int → Prop} : (∃ c, V.int b = V.int c ∧ R c) = R b := by
  apply propext
  constructor
  · rintro ⟨c, h, r⟩
    cases h
    exact r
  · exact fun r => ⟨b, rfl, r⟩
theorem e_exstr {b : Str} {R : Str → Prop} : (∃ c, V.str b = V.str c ∧ R c) = R b := by
  apply propext
  constructor
  · rintro ⟨c, h, r⟩
    cases h
    exact r
  · exact fun r => ⟨b, rfl, r⟩
theorem e_exsome {b : V} {R : V → Prop} : (∃ c, (some (some b) : Option (Option V)) = some (some c) ∧ R c) = R b := by
  apply propext
  constructor
  · rintro ⟨c, h, r⟩
    cases h
    exact r
  · exact fun r => ⟨b, rfl, r⟩
theorem e_pair {i j : Nat} {ta : TA} : tPar i j ta D' σ H = ta σ H fun vs H1 => ∃ v w, vs = [v, w] ∧ D'.nx ((σ.set i (some v)).set j (some w)) H1 := rfl
theorem e_expair {v w : V} {R : V → V → Prop} : (∃ a b, [v, w] = [a, b] ∧ R a b) = R v w := by
  apply propext
  constructor
  · rintro ⟨a, b, h, r⟩
    cases h
    exact r
  · exact fun r => ⟨v, w, rfl, r⟩
end
end U
namespace U
open PySem PySem.Spec PyProof.Rows L2
section
variable {σ : L2.St} {H : Hp} {Q : VK} {K : PySem.W.Frag}
theorem e_m1 {r : V → List V → Hp → VK → Prop} {to te : TE} : tM1 r to te σ H Q = to σ H fun x H1 => (∃ a, x = .str a) ∧ te σ H1 fun y H2 => r x [y] H2 Q := rfl
theorem e_m0 {r : V → List V → Hp → VK → Prop} {to : TE} : tM0 r to σ H Q = to σ H fun x H1 => (∃ a, x = .str a) ∧ r x [] H1 Q := rfl
theorem e_bm {T : String} {r : V → List V → Hp → VK → Prop} {to : TE} {t : TA} : tBM K T r to t σ H Q = to σ H fun x H1 => tyV K T x H1 ∧ t σ H1 fun xs H2 => r x xs H2 Q := rfl
theorem e_bm0 {T : String} {r : V → List V → Hp → VK → Prop} {to : TE} : tBM0 K T r to σ H Q = to σ H fun x H1 => tyV K T x H1 ∧ r x [] H1 Q := rfl
theorem e_fld {to : TE} {f : Str} : tFld K to f σ H Q = to σ H fun x H1 => ∃ a C dx fs v, x = .ref a ∧ H1 a = some (.ins C dx fs) ∧ Cls K C ∧ NoAttr K C f ∧ fs.lookup f = some v ∧ Q v H1 := rfl
end
end U
namespace U
open PySem PySem.Spec PyProof.Rows L2
section
variable {X : Cx} {x : Str} {pos : Pos} {a : Addr}
/-- a built-in class, a class or def of the module, as a value -/
theorem pe_bt (n : String) (hg : Gl X x) (hm : X.mg x = none) (hv : bootBuiltins x = some (.type n)) (hn : x ≠ "__name__" := by decide) (hd : (x == ("__debug__" : Str)) = false := by decide) : PE X (.Name x pos) (tC (.ty n)) :=
  pe_bltn hg hm hv rfl hn hd
theorem pe_gref (hg : Gl X x) (hm : X.mg x = some (.ref a)) (hd : (x == ("__debug__" : Str)) = false := by decide) : PE X (.Name x pos) (tC (.ref a)) := pe_glob (v := .ref a) hg hm rfl hd
end
end U
namespace U
open PySem PySem.Spec PyProof.Rows L2
section
variable {prog : Program} {w : World} {A : Around} {E : Value → Shared → Prop} {s : Shared}
theorem hint_str {x : Str} {t : Tok} {Q : Bool → Shared → Prop} (q : Q false s) : wpAny (model prog w) A (Builtin.List.listLengthHint (.str x t)) Q E s := by
  unfold Builtin.List.listLengthHint
  have ty : s.TypeIs (.str x t) "str" := rfl
  refine wpAny_bind (wpAny_specialOf ty PySem.F.str_len ?_)
  wp_delta
  refine wpAny_bind (wpAny_isInstance (v := .str x t) (T := "str") (b := true) rfl (by rw [isSubtype_type]; kernel_rfl) ?_)
  show wpAny _ A (typeOf (Value.str x t) >>= _) _ _ _
  refine wpAny_bind (wpAny_typeOf ty ?_)
  exact wpAny_pure q
/-- the signs of a text are put behind an empty list at S -/
theorem ext_str {R : Result → Shared → Prop} (hh : A.handled = none) (x : Str) (t : Tok) (S : Addr) (res : Value) (c0 : Nat) (hS : s.heap.get? S = some { cls := .type "list", data := .seq #[] c0 }) (hn : x.cps.size ≤ sizeLine)
    (hR : ∀ h' tk acc c', (∀ b o, b ≠ S → s.heap.get? b = some o → h'.get? b = some o) → h'.get? S = some { cls := .type "list", dict := none, data := .seq acc c', slots := #[] } → ItemsOf (SignAt x) acc x.cps.size → R (.ok (.ret res)) { s with heap := h', toks := tk }) :
    wpAny (model prog w) A.in1 (Builtin.List.listExtendWith (.ref S) (.str x t) res)
      (fun fin s1 => match fin with | .done f => R (.ok f) s1 | .again c1 => c1.quiet = true ∧ codeAny (model prog w) A c1 R s1) (fun e s1 => R (.error e) s1) s := by
  have hlt := Heap.lt_size hS
  unfold Builtin.List.listExtendWith
  have ty : s.TypeIs (.str x t) "str" := rfl
  refine wpAny_bind (wpAny_typeOf ty ?_)
  have n1 : Builtin.List.listSameRef (.ref S) (.str x t) = false := rfl
  have n2 : (Value.type "str" == Value.type "list") = false := by decide
  have n3 : (Value.type "str" == Value.type "tuple") = false := by decide
  simp only [n1, n2, n3, Bool.or_false, Bool.false_eq_true, if_false]
  refine wpAny_bind (wpAny_pyIter_str fun o St W hst => ?_)
  refine wpAny_bind (wpAny_holding (hint_str ?_))
  rw [if_neg (by decide)]
  have hSf : S ∉ [s.heap.objs.size] := by
    intro hm
    exact Nat.ne_of_lt hlt (List.mem_singleton.mp hm)
  have hS1 := Heap.get?_push_of_some o hS
  refine wpAny_pure ⟨plainId_quiet PySem.F.plain_extend_loop _, ?_⟩
  refine codeAny_extend_loopS (W A.in1 hh).toS hn S hSf res x.cps.size 0 _ #[] c0 rfl (Nat.zero_le _) hst hS1 (ItemsOf.nil _) ?_
  intro s1 acc c' hm hS' hacc
  rw [Moved.eq_with hm]
  refine hR s1.heap s1.toks acc c' ?_ hS' hacc
  intro b ob hb e
  refine hm.heap b ob ?_ (Heap.get?_push_of_some _ e)
  intro hmem
  rcases List.mem_cons.mp hmem with z | hmem
  · exact hb z
  · exact Nat.ne_of_lt (Heap.lt_size e) (List.mem_singleton.mp hmem)
theorem init_str {R : Result → Shared → Prop} (hh : A.handled = none) (x : Str) (t : Tok) (S : Addr) (hS : s.heap.get? S = some { cls := .type "list", data := .seq #[] }) (hn : x.cps.size ≤ sizeLine)
    (hR : ∀ h' tk acc c', (∀ b o, b ≠ S → s.heap.get? b = some o → h'.get? b = some o) → h'.get? S = some { cls := .type "list", dict := none, data := .seq acc c', slots := #[] } → ItemsOf (SignAt x) acc x.cps.size → R (.ok (.ret .none)) { s with heap := h', toks := tk }) :
    wpAny (model prog w) A.in1 (Builtin.«list.__init__» ⟨[.ref S, .str x t], []⟩)
      (fun fin s1 => match fin with | .done f => R (.ok f) s1 | .again c1 => c1.quiet = true ∧ codeAny (model prog w) A c1 R s1) (fun e s1 => R (.error e) s1) s := by
  show wpAny _ _ (do
    let old ← Builtin.List.listItems (.ref S)
    Builtin.List.listUpdate (.ref S) (fun _ => #[])
    letGo old.toList.reverse
    Builtin.List.listExtendWith (.ref S) (.str x t) .none) _ _ s
  refine wpAny_bind ?_
  unfold Builtin.List.listItems
  refine wpAny_bind (wpAny_seqItems hS rfl (wpAny_pure ?_))
  show wpAny _ _ (do
    updateSeq S (fun _ => #[])
    letGo (#[] : Array Value).toList.reverse
    Builtin.List.listExtendWith (.ref S) (.str x t) .none) _ _ s
  refine wpAny_bind (wpAny_updateSeq hS rfl ?_)
  have hS2 := Heap.get?_update_self (Obj.mapSeq (fun _ => (#[] : Array Value))) hS rfl
  refine wpAny_bind (wpAny_letGo ?_)
  refine ext_str hh x t S .none _ hS2 hn ?_
  intro h' tk acc c' hk hS' hacc
  refine hR h' tk acc c' (fun b o hb e => hk b o hb ?_) hS' hacc
  exact (Heap.get?_update_other _ _ (Ne.symm hb)).trans e
theorem list_str {Q : Value → Shared → Prop} (hh : A.handled = none) (x : Str) (t : Tok) (hn : x.cps.size ≤ sizeLine)
    (hQ : ∀ h' tk acc c', (∀ b o, s.heap.get? b = some o → h'.get? b = some o) → h'.get? s.heap.objs.size = some { cls := .type "list", dict := none, data := .seq acc c', slots := #[] } → ItemsOf (SignAt x) acc x.cps.size → Q (.ref s.heap.objs.size) { s with heap := h', toks := tk }) :
    wpAny (model prog w) A (call (.type "list") [.str x t]) Q E s := by
  refine callType_codes (Q₁ := fun obj s1 => obj = .ref s.heap.objs.size ∧ s1 = { s with heap := s.heap.push { cls := .type "list", data := .seq #[] } }) PySem.F.called_list (PySem.F.typeCall_list_1 _) PySem.F.entry_list_init (code_list_new _ ⟨rfl, rfl⟩) ?_
  rintro obj s1 ⟨rfl, rfl⟩
  have hS : (s.heap.push { cls := .type "list", data := .seq #[] }).get? s.heap.objs.size = some { cls := .type "list", data := .seq #[] } := Heap.get?_push_size _ rfl
  refine ⟨⟨_, hS, rfl⟩, PySem.F.args_list_init_2 _ _, init_str (A := A.in1) hh x t _ hS hn ?_⟩
  intro h' tk acc c' hk hS' hacc
  refine ⟨rfl, ?_⟩
  refine hQ h' tk acc c' (fun b o e => hk b o (Nat.ne_of_lt (Heap.lt_size e)) (Heap.get?_push_of_some _ e)) hS' hacc
end
/-- the signs of a text, each a text -/
def signsV (z : Str) : List V := z.cps.toList.map fun c => V.str ⟨#[c]⟩
def rListU (K : PySem.W.Frag) : List V → Hp → VK → Prop := fun xs H Q => match xs with
  | [.ref p] => ∃ ys, (SqL K H p ys ∨ SqT K H p ys) ∧ ∀ l, H l = none → Q (.ref l) (upd H l (.lst ys))
  | [.str z] => z.length ≤ sizeLine ∧ ∀ l, H l = none → Q (.ref l) (upd H l (.lst (signsV z)))
  | _ => False
theorem call_listU {X : Cx} (hc : X.calm = true := by rfl) : CallR X (.type "list") (rListU X.K) := by
  intro pins s σ H xs us Q I r h
  match xs, h with
  | [.ref p], h =>
    obtain ⟨ys, h1, q⟩ := h
    exact call_list_of pins s σ H _ us Q I r ⟨p, ys, rfl, h1, q⟩
  | [.str z], h =>
    obtain ⟨hz, q⟩ := h
    obtain ⟨u, rfl, t, rfl⟩ := vals1 r
    refine list_str (I.ok.hd hc) z t hz ?_
    intro h' tk acc c' hk hS hacc
    have hnew : H s.heap.objs.size = none := I.hok.fresh (Nat.le_refl _)
    have ob : ObjOk X.prog X.w (upd H s.heap.objs.size (.lst (signsV z))) h' s.heap.objs.size (.lst (signsV z)) := by
      refine ⟨?_, acc.toList, c', ?_, by rw [Array.toArray_toList]; exact hS⟩
      · unfold signsV
        rw [List.length_map]
        exact hz
      · refine vals_of_at ?_ ?_
        · unfold signsV
          rw [List.length_map, Array.length_toList, Array.length_toList, hacc.1]
        · intro j v u h1 h2
          rw [Array.getElem?_toList] at h2
          obtain ⟨c, tk2, hc2, rfl⟩ := hacc.2 j u h2
          unfold signsV at h1
          rw [List.getElem?_map, Array.getElem?_toList, hc2] at h1
          cases h1
          exact ⟨_, rfl⟩
    exact ⟨.ref s.heap.objs.size, _, I.laid hk (Nat.le_refl _) ob, rfl, q _ hnew⟩
def pk1_0 {α : Type} : List α → List α
  | [a, b] => [b, a]
  | l => l
def pk3_2_1_0 {α : Type} : List α → List α
  | [a, b, c, d] => [d, c, b, a]
  | l => l
def pk2_1_0 {α : Type} : List α → List α
  | [a, b, c] => [c, b, a]
  | l => l
def pk0 {α : Type} : List α → List α := fun l => l
def pk0_1 {α : Type} : List α → List α := fun l => l
end U
namespace U
open PySem PySem.Spec PyProof.Rows L2
/-- J walks n items, wherever what stood in H0 (but S) still stands; it: the item, the heap ahead of the turn and behind the draw -/
structure Src (S : Addr → Prop) (J : It) (H0 : Hp) (n : Nat) (it : Nat → V → Hp → Hp → Prop) : Prop where
  stop : ∀ H', Ext S H0 H' → J.stop n H'
  go : ∀ i H', i < n → Ext S H0 H' → J.go i H'
  yld : ∀ i H' x H2, i < n → Ext S H0 H' → J.yld i H' x H2 → it i x H' H2
section
variable {K : PySem.W.Frag} {S : Addr → Prop} {H0 : Hp} {a : Addr} {xs : List V}
theorem src_list (h : H0 a = some (.lst xs)) (n : ¬ S a) : Src S (Itl K a) H0 xs.length (fun i x H' H2 => H2 = H' ∧ xs[i]? = some x) := by
  refine ⟨fun H' e => ⟨xs, SqL.of (e _ _ n h), Nat.le_refl _⟩, fun i H' hi e => ⟨xs, xs[i], SqL.of (e _ _ n h), by simp [hi]⟩, fun i H' x H2 hi e y => ?_⟩
  obtain ⟨q, y⟩ := y
  exact ⟨q, y xs (SqL.of (e _ _ n h))⟩
theorem src_rng (lo : Int) (n : Nat) : Src S (Itr lo n) H0 n (fun i x H' H2 => H2 = H' ∧ x = .int (lo + (i : Nat))) :=
  ⟨fun _ _ => Nat.le_refl _, fun _ _ hi _ => hi, fun _ _ _ _ _ _ y => y⟩
theorem src_str (z : Str) : Src S (Its z) H0 z.cps.size (fun i x H' H2 => H2 = H' ∧ ∃ c, z.cps[i]? = some c ∧ x = .str ⟨#[c]⟩) :=
  ⟨fun _ _ => Nat.le_refl _, fun _ _ hi _ => hi, fun _ _ _ _ _ _ y => y⟩
end
/-- a comprehension: I says which data may have been gathered behind i turns -/
theorem lc_core {J : It} {H1 : Hp} {n : Nat} {it : Nat → V → Hp → Hp → Prop} {g : TG} {tt : TT} {te : TE} {vs : List Nat} {σ : L2.St} {Q : VK} {D0 : Addr} (hD : H1 D0 = none) (src : Src (fun a => a = D0) J H1 n it) (hn : n ≤ 16777216)
    (I : Nat → List D → Prop) (i0 : I 0 [])
    (step : ∀ i ds H', i < n → I i ds → Ext (fun a => a = D0) H1 H' → ∀ x H2, it i x H' H2 → ∀ (Ky : VK) (Kn : Hp → Prop), (∀ y H5 d, Same H' H5 → Dt N0 H5 y d → D.flat d = true → I (i + 1) (ds ++ [d]) → Ky y H5) → (∀ H5, Same H' H5 → I (i + 1) ds → Kn H5) →
      g x (wipe σ vs) H2 fun σ2 H3 => wipe σ2 vs = wipe σ vs ∧ tt σ2 H3 fun b H4 => if b = true then te σ2 H4 Ky else Kn H4)
    (fin : ∀ H' ds, I n ds → ds.length ≤ n → Same H1 H' → Dt N0 H' (.ref D0) (.lst ds) → Q (.ref D0) H') :
    ∃ W : Nat → Nat → Hp → Prop, (∃ m, W 0 m (upd H1 D0 (.lst []))) ∧ ∀ i m H, W i m H →
      (J.stop i H ∧ Q (.ref D0) H) ∨ (J.go i H ∧ ∃ Nx : Hp → Prop, (∀ H', Nx H' → ∃ m', m' < m ∧ W (i + 1) m' H') ∧ ∀ x H', J.yld i H x H' → g x (wipe σ vs) H' fun σ2 H2 => wipe σ2 vs = wipe σ vs ∧ tt σ2 H2 fun b H3 =>
        if b = true then te σ2 H3 fun y H4 => ∃ acc, H4 D0 = some (.lst acc) ∧ acc.length < sizeLine ∧ Nx (upd H4 D0 (.lst (acc ++ [y]))) else Nx H3) := by
  refine ⟨fun i m H => m = n - i ∧ i ≤ n ∧ Ext (fun a => a = D0) H1 H ∧ ∃ ws ds, H D0 = some (.lst ws) ∧ DtA (fun a => a = D0) H ws ds ∧ I i ds ∧ ds.length ≤ i, ⟨n, rfl, Nat.zero_le _, ?_, [], [], upd_same, .nil, i0, Nat.le_refl _⟩, ?_⟩
  · exact Ext.mut (Ext.refl _) rfl
  · rintro i m H ⟨rfl, hi, hE, ws, ds, hL, hA, hI, hlen⟩
    by_cases hlt : i < n
    · refine .inr ⟨src.go i H hlt hE, fun H' => ∃ ws ds, Ext (fun a => a = D0) H1 H' ∧ H' D0 = some (.lst ws) ∧ DtA (fun a => a = D0) H' ws ds ∧ I (i + 1) ds ∧ ds.length ≤ i + 1, ?_, ?_⟩
      · rintro H' ⟨ws', ds', hE', hL', hA', hI', hl'⟩
        exact ⟨n - (i + 1), by omega, rfl, hlt, hE', ws', ds', hL', hA', hI', hl'⟩
      · intro x H2 hy
        refine step i ds H hlt hI hE x H2 (src.yld i H x H2 hlt hE hy) _ _ ?_ ?_
        · intro y H5 d hS hd0 hfl hI'
          have hd := Dt.nl (hS _ _ hL) d hfl hd0
          refine ⟨ws, hS _ _ hL, ?_, ws ++ [y], ds ++ [d], ?_, upd_same, ?_, hI', by rw [List.length_append, List.length_singleton]; omega⟩
          · rw [hA.length]
            exact Nat.lt_of_le_of_lt hlen (Nat.lt_of_lt_of_le hlt (by rw [sizeLine_eq]; exact hn))
          · exact Ext.mut (hE.trans (Ext.of hS)) rfl
          · have z : DtA (fun a => a = D0) H5 (ws ++ [y]) (ds ++ [d]) := (hA.sm hS).snoc hd
            exact z.go (Ext.mut (Ext.refl _) rfl)
        · intro H5 hS hI'
          exact ⟨ws, ds, hE.trans (Ext.of hS), hS _ _ hL, hA.sm hS, hI', by omega⟩
    · have e : i = n := by omega
      subst e
      refine .inl ⟨src.stop H hE, fin H ds hI hlen (hE.same hD) ?_⟩
      exact .lst (fun z => z) hL hA.n0
/-- the step of a comprehension -/
abbrev LcStep (H1 : Hp) (D0 : Addr) (n : Nat) (it : Nat → V → Hp → Hp → Prop) (I : Nat → List D → Prop) (g : TG) (tt : TT) (te : TE) (vs : List Nat) (σ : L2.St) : Prop :=
  ∀ i ds H', i < n → I i ds → Ext (fun a => a = D0) H1 H' → ∀ x H2, it i x H' H2 → ∀ (Ky : VK) (Kn : Hp → Prop), (∀ y H5 d, Same H' H5 → Dt N0 H5 y d → D.flat d = true → I (i + 1) (ds ++ [d]) → Ky y H5) → (∀ H5, Same H' H5 → I (i + 1) ds → Kn H5) →
      g x (wipe σ vs) H2 fun σ2 H3 => wipe σ2 vs = wipe σ vs ∧ tt σ2 H3 fun b H4 => if b = true then te σ2 H4 Ky else Kn H4
abbrev LcFin (H1 : Hp) (D0 : Addr) (n : Nat) (I : Nat → List D → Prop) (Q : VK) : Prop := ∀ H' ds, I n ds → ds.length ≤ n → Same H1 H' → Dt N0 H' (.ref D0) (.lst ds) → Q (.ref D0) H'
/-- a comprehension that walks J -/
def LcOn (J : It) (g : TG) (tt : TT) (te : TE) (vs : List Nat) (σ : L2.St) (Q : VK) (H1 : Hp) : Prop := ∀ D, H1 D = none → ∃ W : Nat → Nat → Hp → Prop, (∃ m, W 0 m (upd H1 D (.lst []))) ∧ ∀ i m H, W i m H →
  (J.stop i H ∧ Q (.ref D) H) ∨ (J.go i H ∧ ∃ Nx : Hp → Prop, (∀ H', Nx H' → ∃ m', m' < m ∧ W (i + 1) m' H') ∧ ∀ x H', J.yld i H x H' → g x (wipe σ vs) H' fun σ2 H2 => wipe σ2 vs = wipe σ vs ∧ tt σ2 H2 fun b H3 =>
    if b = true then te σ2 H3 fun y H4 => ∃ acc, H4 D = some (.lst acc) ∧ acc.length < sizeLine ∧ Nx (upd H4 D (.lst (acc ++ [y]))) else Nx H3)
def rLcL (K : PySem.W.Frag) (g : TG) (tt : TT) (te : TE) (vs : List Nat) (σ : L2.St) (Q : VK) (x : V) (H1 : Hp) : Prop := ∃ a, x = .ref a ∧ (∃ xs, SqL K H1 a xs) ∧ LcOn (Itl K a) g tt te vs σ Q H1
def rLcT (K : PySem.W.Frag) (g : TG) (tt : TT) (te : TE) (vs : List Nat) (σ : L2.St) (Q : VK) (x : V) (H1 : Hp) : Prop := ∃ a, x = .ref a ∧ (∃ xs, SqT K H1 a xs) ∧ LcOn (Itt K a) g tt te vs σ Q H1
def rLcS (g : TG) (tt : TT) (te : TE) (vs : List Nat) (σ : L2.St) (Q : VK) (x : V) (H1 : Hp) : Prop := ∃ z, x = .str z ∧ LcOn (Its z) g tt te vs σ Q H1
def rLcR (g : TG) (tt : TT) (te : TE) (vs : List Nat) (σ : L2.St) (Q : VK) (x : List V) (H1 : Hp) : Prop := ∃ j : Int, x = [.int j] ∧ -(2 ^ 62) ≤ j ∧ j < 2 ^ 62 ∧ LcOn (Itr 0 j.toNat) g tt te vs σ Q H1
def rLcR2 (g : TG) (tt : TT) (te : TE) (vs : List Nat) (σ : L2.St) (Q : VK) (x : List V) (H1 : Hp) : Prop := ∃ i j : Int, x = [.int i, .int j] ∧ (-(2 ^ 62) ≤ i ∧ i < 2 ^ 62 ∧ -(2 ^ 62) ≤ j ∧ j < 2 ^ 62) ∧ LcOn (Itr i (j - i).toNat) g tt te vs σ Q H1
section
variable {K : PySem.W.Frag} {H H1 : Hp} {a : Addr} {xs : List V} {g : TG} {tt : TT} {te tl : TE} {vs : List Nat} {σ : L2.St} {Q : VK} {ta : TA}
theorem e_lcL : tLc (iList K tl) g tt te vs σ H Q = tl σ H fun x H1 => rLcL K g tt te vs σ Q x H1 := rfl
theorem e_lcT : tLc (iTup K tl) g tt te vs σ H Q = tl σ H fun x H1 => rLcT K g tt te vs σ Q x H1 := rfl
theorem e_lcS : tLc (iStr tl) g tt te vs σ H Q = tl σ H fun x H1 => rLcS g tt te vs σ Q x H1 := rfl
theorem e_lcR : tLc (iRng1 ta) g tt te vs σ H Q = ta σ H fun x H1 => rLcR g tt te vs σ Q x H1 := rfl
theorem e_lcR2 : tLc (iRng2 ta) g tt te vs σ H Q = ta σ H fun x H1 => rLcR2 g tt te vs σ Q x H1 := rfl
theorem ne_fresh {D0 : Addr} {o : HO} (h : H1 a = some o) (hD : H1 D0 = none) : ¬ a = D0 := ne_of_none h hD
theorem lcL (h : H1 a = some (.lst xs)) (hn : xs.length ≤ 16777216) (I : Nat → List D → Prop) (i0 : I 0 [])
    (step : ∀ D0, H1 D0 = none → LcStep H1 D0 xs.length (fun i x H' H2 => H2 = H' ∧ xs[i]? = some x) I g tt te vs σ) (fin : ∀ D0, H1 D0 = none → LcFin H1 D0 xs.length I Q) : rLcL K g tt te vs σ Q (.ref a) H1 :=
  ⟨a, rfl, ⟨xs, SqL.of h⟩, fun D0 hD => lc_core hD (src_list h (ne_fresh h hD)) hn I i0 (step D0 hD) (fin D0 hD)⟩
theorem lcS {z : Str} (hn : z.cps.size ≤ 16777216) (I : Nat → List D → Prop) (i0 : I 0 [])
    (step : ∀ D0, H1 D0 = none → LcStep H1 D0 z.cps.size (fun i x H' H2 => H2 = H' ∧ ∃ c, z.cps[i]? = some c ∧ x = .str ⟨#[c]⟩) I g tt te vs σ) (fin : ∀ D0, H1 D0 = none → LcFin H1 D0 z.cps.size I Q) : rLcS g tt te vs σ Q (.str z) H1 :=
  ⟨z, rfl, fun D0 hD => lc_core hD (src_str z) hn I i0 (step D0 hD) (fin D0 hD)⟩
theorem lcR {n : Int} (hn : n ≤ 16777216) (hn0 : -16777216 ≤ n) (I : Nat → List D → Prop) (i0 : I 0 [])
    (step : ∀ D0, H1 D0 = none → LcStep H1 D0 n.toNat (fun i x H' H2 => H2 = H' ∧ x = .int (i : Nat)) I g tt te vs σ) (fin : ∀ D0, H1 D0 = none → LcFin H1 D0 n.toNat I Q) : rLcR g tt te vs σ Q [.int n] H1 := by
  refine ⟨n, rfl, by omega, by omega, fun D0 hD => lc_core hD (src_rng 0 n.toNat) (by omega) I i0 ?_ (fin D0 hD)⟩
  rintro i ds H' hi hI hE x H2 ⟨e1, e2⟩
  exact step D0 hD i ds H' hi hI hE x H2 ⟨e1, by rw [e2, Int.zero_add]⟩
end
theorem for_core {J : It} {H1 : Hp} {n : Nat} {it : Nat → V → Hp → Hp → Prop} {S : Addr → Prop} {g : TG} {tb : TS} {σ : L2.St} {D0 : Ends} (src : Src S J H1 n it)
    (I : Nat → L2.St → Hp → Prop) (i0 : I 0 σ H1) (stay : ∀ i σ' H', I i σ' H' → Ext S H1 H')
    (step : ∀ i σ' H', i < n → I i σ' H' → ∀ x H2, it i x H' H2 → g x σ' H2 fun σ2 H3 => tb { D0 with nx := I (i + 1), ct := I (i + 1), bk := D0.nx } σ2 H3)
    (fin : ∀ σ' H', I n σ' H' → D0.nx σ' H') :
    ∃ W : Nat → Nat → L2.St → Hp → Prop, (∃ m, W 0 m σ H1) ∧ ∀ i m σ H, W i m σ H →
      (J.stop i H ∧ D0.nx σ H) ∨ (J.go i H ∧ ∃ N : L2.St → Hp → Prop, (∀ σ' H', N σ' H' → ∃ m', m' < m ∧ W (i + 1) m' σ' H') ∧ ∀ x H', J.yld i H x H' → g x σ H' fun σ2 H2 => tb { D0 with nx := N, ct := N, bk := D0.nx } σ2 H2) := by
  refine ⟨fun i m σ' H' => m = n - i ∧ i ≤ n ∧ I i σ' H', ⟨n, rfl, Nat.zero_le _, i0⟩, ?_⟩
  rintro i m σ' H' ⟨rfl, hi, hI⟩
  by_cases hlt : i < n
  · refine .inr ⟨src.go i H' hlt (stay _ _ _ hI), I (i + 1), fun σ2 H2 q => ⟨n - (i + 1), by omega, rfl, hlt, q⟩, fun x H2 y => ?_⟩
    exact step i σ' H' hlt hI x H2 (src.yld i H' x H2 hlt (stay _ _ _ hI) y)
  · have e : i = n := by omega
    subst e
    exact .inl ⟨src.stop H' (stay _ _ _ hI), fin σ' H' hI⟩
/-- a loop that walks J -/
def ForOn (J : It) (g : TG) (tb : TS) (D0 : Ends) (σ : L2.St) (H1 : Hp) : Prop := ∃ W : Nat → Nat → L2.St → Hp → Prop, (∃ m, W 0 m σ H1) ∧ ∀ i m σ H, W i m σ H →
  (J.stop i H ∧ D0.nx σ H) ∨ (J.go i H ∧ ∃ N : L2.St → Hp → Prop, (∀ σ' H', N σ' H' → ∃ m', m' < m ∧ W (i + 1) m' σ' H') ∧ ∀ x H', J.yld i H x H' → g x σ H' fun σ2 H2 => tb { D0 with nx := N, ct := N, bk := D0.nx } σ2 H2)
def rForL (K : PySem.W.Frag) (g : TG) (tb : TS) (D0 : Ends) (σ : L2.St) (x : V) (H1 : Hp) : Prop := ∃ a, x = .ref a ∧ (∃ xs, SqL K H1 a xs) ∧ ForOn (Itl K a) g tb D0 σ H1
def rForT (K : PySem.W.Frag) (g : TG) (tb : TS) (D0 : Ends) (σ : L2.St) (x : V) (H1 : Hp) : Prop := ∃ a, x = .ref a ∧ (∃ xs, SqT K H1 a xs) ∧ ForOn (Itt K a) g tb D0 σ H1
def rForR (g : TG) (tb : TS) (D0 : Ends) (σ : L2.St) (x : List V) (H1 : Hp) : Prop := ∃ j : Int, x = [.int j] ∧ -(2 ^ 62) ≤ j ∧ j < 2 ^ 62 ∧ ForOn (Itr 0 j.toNat) g tb D0 σ H1
def rForR2 (g : TG) (tb : TS) (D0 : Ends) (σ : L2.St) (x : List V) (H1 : Hp) : Prop := ∃ i j : Int, x = [.int i, .int j] ∧ (-(2 ^ 62) ≤ i ∧ i < 2 ^ 62 ∧ -(2 ^ 62) ≤ j ∧ j < 2 ^ 62) ∧ ForOn (Itr i (j - i).toNat) g tb D0 σ H1
section
variable {K : PySem.W.Frag} {S : Addr → Prop} {H H1 : Hp} {a : Addr} {xs : List V} {g : TG} {tb : TS} {tl : TE} {σ : L2.St} {D0 : Ends} {ta : TA}
theorem e_forL : tFor (iList K tl) g tb D0 σ H = tl σ H fun x H1 => rForL K g tb D0 σ x H1 := rfl
theorem e_forT : tFor (iTup K tl) g tb D0 σ H = tl σ H fun x H1 => rForT K g tb D0 σ x H1 := rfl
theorem e_forR : tFor (iRng1 ta) g tb D0 σ H = ta σ H fun x H1 => rForR g tb D0 σ x H1 := rfl
theorem e_forR2 : tFor (iRng2 ta) g tb D0 σ H = ta σ H fun x H1 => rForR2 g tb D0 σ x H1 := rfl
theorem forL (h : H1 a = some (.lst xs)) (hS : ¬ S a) (I : Nat → L2.St → Hp → Prop) (i0 : I 0 σ H1) (stay : ∀ i σ' H', I i σ' H' → Ext S H1 H')
    (step : ∀ i x σ' H', xs[i]? = some x → I i σ' H' → g x σ' H' fun σ2 H3 => tb { D0 with nx := I (i + 1), ct := I (i + 1), bk := D0.nx } σ2 H3) (fin : ∀ σ' H', I xs.length σ' H' → D0.nx σ' H') : rForL K g tb D0 σ (.ref a) H1 :=
  ⟨a, rfl, ⟨xs, SqL.of h⟩, for_core (src_list h hS) I i0 stay (fun i σ' H' _ hI x H2 y => by obtain ⟨rfl, y⟩ := y; exact step i x σ' _ y hI) fin⟩
end
end U
namespace U
open PySem PySem.Spec PyProof.Rows L2
/-- the text of one sign; of codes -/
def one (c : Nat) : Str := ⟨#[c]⟩
def ofL (l : List Nat) : Str := ⟨l.toArray⟩
def cd (z : Str) : List Nat := z.cps.toList
theorem cd_ofL (l : List Nat) : cd (ofL l) = l := rfl
theorem cd_len (z : Str) : (cd z).length = z.length := by
  unfold cd
  rw [Array.length_toList]
  rfl
theorem cd_size (z : Str) : z.cps.size = (cd z).length := by
  unfold cd
  rw [Array.length_toList]
def sgn (c : Nat) : D := .str (one c)
def SIGNS : Str := PySem.Str.ofString ".0123456789abcdefghijklmnopqrstuvwxyz~"
def signs : List Nat := cd SIGNS
def isSign (c : Nat) : Bool := decide (c ∈ signs)
/-- a text of at most n signs -/
def okText (n : Nat) (z : Str) : Bool := decide (z.length ≤ n) && (cd z).all isSign
theorem okText_iff {n : Nat} {z : Str} : okText n z = true ↔ z.length ≤ n ∧ ∀ c ∈ cd z, c ∈ signs := by
  unfold okText isSign
  rw [Bool.and_eq_true, List.all_eq_true]
  simp
structure Sh where
  limit : Nat
  head : Nat
  tail : Nat
  mark : Str
def Sh.ok (s : Sh) : Prop := s.limit ≤ 40 ∧ s.head ≤ 40 ∧ s.tail ≤ 40 ∧ okText 3 s.mark = true
/-- what a shortener leaves of a list; f: how a sign of the mark stands there -/
def cutP {α : Type} (f : Nat → α) (s : Sh) (xs : List α) : List α :=
  if xs.length ≤ s.limit then xs else xs.take s.head ++ (cd s.mark).map f ++ xs.drop (xs.length - s.tail)
def cutR {α : Type} (f : Nat → α) (row : List Sh) (xs : List α) : List α := row.foldl (fun ys s => cutP f s ys) xs
/-- what a row shows of a text -/
def showC (row : List Sh) (l : List Nat) : List Nat := cutR id row l
def showS (row : List Sh) (z : Str) : Str := ofL (showC row (cd z))
theorem dt_signs {S : Addr → Prop} {H : Hp} : ∀ l : List Nat, DtA S H (l.map fun c => V.str (one c)) (l.map sgn)
  | [] => .nil
  | c :: l => .cons (.str _) (dt_signs l)
theorem dt_signsV {S : Addr → Prop} {H : Hp} (z : Str) : DtA S H (signsV z) ((cd z).map sgn) := dt_signs (cd z)
/-- a list at an address, a tuple -/
theorem dt_lst {S : Addr → Prop} {H : Hp} {v : V} {ds : List D} (h : Dt S H v (.lst ds)) : ∃ a xs, v = .ref a ∧ ¬ S a ∧ H a = some (.lst xs) ∧ DtA S H xs ds := by
  cases h with
  | lst n ha hs => exact ⟨_, _, rfl, n, ha, hs⟩
theorem dt_tup {S : Addr → Prop} {H : Hp} {v : V} {ds : List D} (h : Dt S H v (.tup ds)) : ∃ a xs, v = .ref a ∧ ¬ S a ∧ H a = some (.tup xs) ∧ DtA S H xs ds := by
  cases h with
  | tup n ha hs => exact ⟨_, _, rfl, n, ha, hs⟩
theorem join_one1 (l : List Nat) : Txt.join (PySem.Str.ofString "") (l.map one) = ofL l := by
  have e := SX.join_S [] (l.map fun c => [c])
  rw [List.map_map] at e
  have e1 : SX.S [] = PySem.Str.ofString "" := rfl
  have e2 : (SX.S ∘ fun c => [c]) = one := rfl
  rw [e1, e2] at e
  rw [e]
  have h : ∀ l : List Nat, TL.joinL [] (l.map fun c => [c]) = l := by
    intro l
    induction l with
    | nil => rfl
    | cons c r ih =>
      cases r with
      | nil => rfl
      | cons d t =>
        show [c] ++ [] ++ TL.joinL [] ((d :: t).map fun c => [c]) = c :: d :: t
        rw [ih]
        rfl
  rw [h]
  rfl
end U
namespace U
open PySem PySem.Spec PyProof.Rows L2 StX
section
variable {X : Cx} {K : PySem.W.Frag} {e o a b : Expr} {te to : TE} {tg : Expr} {ta : TA}
theorem op_eqK (h : X.K = K) (hu : X.A.units + 64 < cLine) : OpR X (compareOp .Eq) (rEqU K) := by subst h; exact op_eqU hu
theorem op_inK (h : X.K = K) : OpR X (compareOp .In) (rInU K) := by subst h; exact op_inU
theorem op_ninK (h : X.K = K) : OpR X (compareOp .NotIn) (rNinU K) := by subst h; exact op_ninU
theorem ix_K (h : X.K = K) : IxR X (rIxU K) := by subst h; exact ix_U
theorem sl_K (h : X.K = K) : SlR X (rSlU K) := by subst h; exact sl_U
theorem call_lenK (h : X.K = K) : CallR X (.builtin "len") (rLenU K) := by subst h; exact call_lenU
theorem call_listK (h : X.K = K) (hc : X.calm = true) : CallR X (.type "list") (rListU K) := by subst h; exact call_listU hc
theorem call_isiK (h : X.K = K) : CallR X (.builtin "isinstance") (rIsi K) := by subst h; exact call_isi
theorem cr_allK (h : X.K = K) (hc : X.calm = true) : CallR X (.builtin "all") (rAll K) := by subst h; exact cr_all hc
theorem pe_fldK (h : X.K = K) {f : Str} {pos : Pos} (he : PE X e te) (hb : attributeBase e f X.env (eval e X.env) = eval e X.env := by rfl) : PE X (.Attribute e f pos) (tFld K te f) := by subst h; exact pe_fld he hb
theorem pi_listK (h : X.K = K) (he : PE X e te) : PI X tg e (iList K te) := by subst h; exact pi_list he
theorem pi_tupK (h : X.K = K) (he : PE X e te) : PI X tg e (iTup K te) := by subst h; exact pi_tup he
theorem pa_starK (h : X.K = K) {es : List Expr} {t : TA} {p : Pos} (he : PE X e te) (hr : PA X es t) (hs : starEach (.Starred e p :: es) X.env = (true, eval e X.env) :: starEach es X.env := by rfl) : PA X (.Starred e p :: es) (tStar K te t) := by subst h; exact pa_star he hr hs
/-- '..'.join(xs) -/
def rJoin (K : PySem.W.Frag) : V → List V → Hp → VK → Prop := fun x xs H Q => ∃ a p, ∃ ys : List Str, x = .str a ∧ xs = [.ref p] ∧ (SqL K H p (ys.map V.str) ∨ SqT K H p (ys.map V.str)) ∧ (ys.map (·.length)).sum + ys.length * a.length ≤ 16777216 ∧ Q (.str (Txt.join a ys)) H
theorem pe_joinK (h : X.K = K) {apos pos : Pos} (ho : PE X o to) (he : PE X e te) (hs : starEach [e] X.env = [(false, eval e X.env)] := by rfl) (hbase : attributeBase o "join" X.env (eval o X.env) = eval o X.env := by rfl) (hline : (apos.endLine == pos.line) = true := by rfl) :
    PE X (.Call (.Attribute o "join" apos) [e] [] pos) (tM1 (rJoin K) to te) := by subst h; exact pe_join ho he hs hbase hline
/-- tuple(xs) -/
theorem pe_tupOfK (h : X.K = K) {p pos : Pos} (hg : Gl X "tuple") (hm : X.mg "tuple" = none) (he : PE X e te) (na : starEach [e] X.env = (false, eval e X.env) :: starEach [] X.env := by rfl) : PE X (.Call (.Name "tuple" p) [e] [] pos) (tThen te (kTup K)) := by
  subst h
  exact pe_tupleOf hg hm he na
theorem e_then {σ : L2.St} {H : Hp} {Q : VK} {k : V → Hp → VK → Prop} : tThen te k σ H Q = te σ H fun x H1 => k x H1 Q := rfl
theorem e_star {σ : L2.St} {H : Hp} {Q : List V → Hp → Prop} {t : TA} : tStar K te t σ H Q = te σ H fun x H1 => ∃ p xs, x = V.ref p ∧ (SqT K H1 p xs ∨ SqL K H1 p xs) ∧ t σ H1 fun ys H2 => Q (xs ++ ys) H2 := rfl
end
end U
namespace U
open PySem PySem.Spec PyProof.Rows L2
theorem e_yes {σ : L2.St} {H : Hp} {R : Bool → Hp → Prop} : tYes σ H R = R true H := rfl
end U
namespace U
theorem take_snoc {α : Type} {l : List α} {i : Nat} {c : α} (h : l[i]? = some c) : l.take (i + 1) = l.take i ++ [c] := by
  rw [List.take_add_one, h]
  rfl
theorem take_map {α β : Type} {l : List α} {i : Nat} {c : α} (f : α → β) (h : l[i]? = some c) : (l.take i).map f ++ [f c] = (l.take (i + 1)).map f := by
  rw [take_snoc h, List.map_append]
  rfl
theorem cd_get {z : PySem.Str} {i c : Nat} (h : z.cps[i]? = some c) : (cd z)[i]? = some c := by
  unfold cd
  rw [Array.getElem?_toList]
  exact h
end U
namespace U
open PySem PySem.Spec PyProof.Rows L2
theorem e_sfld {σ : L2.St} {H : Hp} {D0 : Ends} {K : PySem.W.Frag} {ta tv : TE} {f : Str} : sFld K ta tv f D0 σ H = tv σ H fun y H1 => ta σ H1 fun x H2 => ∃ a C dx fs, x = .ref a ∧ H2 a = some (.ins C dx fs) ∧ Cls K C ∧ NoAttr K C f ∧ fs.length < 1000 ∧ D0.nx σ (upd H2 a (.ins C dx (putF f y fs))) := rfl
end U
namespace U
open PySem PySem.Spec PyProof.Rows L2
section
variable {σ : L2.St} {H : Hp} {R : L2.St → Hp → Prop} {K : PySem.W.Frag}
theorem e_gcons {t : TG} {u : TGs} {x : V} {r : List V} : gCons t u (x :: r) σ H R = t x σ H fun σ1 H1 => u r σ1 H1 R := by
  apply propext
  constructor
  · rintro ⟨v, l, h, q⟩
    cases h
    exact q
  · exact fun q => ⟨x, r, rfl, q⟩
theorem e_gnil : gNil [] σ H R = R σ H := by
  apply propext
  exact ⟨fun q => q.2, fun q => ⟨rfl, q⟩⟩
theorem e_gtup {n : Nat} {t : TGs} {v : V} : gTup K n t v σ H R = ∃ a xs, v = .ref a ∧ SqT K H a xs ∧ xs.length = n ∧ t xs σ H R := rfl
theorem e_gsub {to ti : TE} {t : TSet} {v : V} : gSub to ti t v σ H R = to σ H fun o H1 => ti σ H1 fun i H2 => t o i v H2 fun H3 => R σ H3 := rfl
theorem pg_tupK {X : Cx} (h : X.K = K) {es : List Expr} {k : Nat} {pos : Pos} {t : TGs} {n : Nat} (hc : X.calm = true) (ht : PGs X es t) (hn : (assignEach es X.env).length = n := by rfl) (hst : (assignEach es X.env).findIdx? (·.1) = none := by rfl) : PG X (.Tuple es k pos) (gTup K n t) := by
  subst h
  exact pg_tup hc ht hn hst
end
end U
namespace U
open PySem PySem.Spec PyProof.Rows L2
section
variable {σ : L2.St} {H : Hp} {Q : VK} {K : PySem.W.Frag}
theorem e_make {C : Addr} {sp : Sp} {dvs : List V} {E : XK} {t : TA} : tMake C sp dvs E t σ H Q = t σ H fun vs H1 => ∀ x dx, H1 x = none → H1 dx = none → dx ≠ x → sp (.ref x :: (vs ++ dvs)) (upd (upd H1 dx (.own x)) x (.ins C dx [])) (fun v H2 => v = .non ∧ Q (.ref x) H2) E := rfl
theorem e_makeK {C : Addr} {n m : Nat} {sp : Sp} {gV : List V → List V → List V} {E : XK} {t tk : TA} : tMakeK C n m sp gV E t tk σ H Q = t σ H fun vs H1 => tk σ H1 fun zs H2 => vs.length = n ∧ zs.length = m ∧ ∀ x dx, H2 x = none → H2 dx = none → dx ≠ x →
  sp (gV (.ref x :: vs) zs) (upd (upd H2 dx (.own x)) x (.ins C dx [])) (fun v H3 => v = .non ∧ Q (.ref x) H3) E := rfl
theorem e_callN {n m : Nat} {sp : Sp} {gV : List V → List V → List V} {E : XK} {t tk : TA} : tCallN n m sp gV E t tk σ H Q = t σ H fun vs H1 => tk σ H1 fun zs H2 => vs.length = n ∧ zs.length = m ∧ sp (gV vs zs) H2 Q E := rfl
theorem e_meth {C : Addr} {m : Str} {sp : Sp} {dvs : List V} {E : XK} {ta : TE} {t : TA} : tMeth C m sp dvs E ta t σ H Q = ta σ H fun x H1 => ∃ a dx fs, x = .ref a ∧ H1 a = some (.ins C dx fs) ∧ fs.lookup m = none ∧ t σ H1 fun vs H2 => sp (x :: (vs ++ dvs)) H2 Q E := rfl
theorem e_kTup {p : Addr} : kTup K (.ref p) H Q = ((∃ xs, SqL K H p xs ∧ ∀ q, H q = none → Q (.ref q) (upd H q (.tup xs))) ∨ (∃ xs, SqT K H p xs ∧ Q (.ref p) H)) := by
  apply propext
  unfold kTup
  constructor
  · rintro (⟨q, xs, h, r⟩ | ⟨q, xs, h, r⟩)
    · cases h
      exact .inl ⟨xs, r⟩
    · cases h
      exact .inr ⟨xs, r⟩
  · rintro (⟨xs, r⟩ | ⟨xs, r⟩)
    · exact .inl ⟨p, xs, rfl, r⟩
    · exact .inr ⟨p, xs, rfl, r⟩
end
end U
namespace U
open PySem PySem.Spec PyProof.Rows L2
set_option maxHeartbeats 8000000 in
theorem meets_enum1 {v : Value} {o : Obj} {W : Heap → Prop} (B : Begins v o W) :
    Meets (Builtin.«enumerate.__new__» ⟨[.type "enumerate", v], []⟩) (fun _ R s => W s.heap ∧
      R (.ok (.ret (.ref (s.heap.push o).objs.size))) { s with heap := (s.heap.push o).push { cls := .type "enumerate", data := .fields #[.none, .bool false, .ref s.heap.objs.size, rawInt 0, .none, .none] } }) :=
  .of_wp fun prog w A R s h => by
    obtain ⟨hp, g, d, tk, os⟩ := s
    obtain ⟨h1, h⟩ := h
    have q1 : ∀ {A' : Around} {E : Value → Shared → Prop} {Q : Value → Shared → Prop}, Q (.ref hp.objs.size) ⟨hp.push o, g, d, tk, os⟩ → wpAny (model prog w) A' (pyIter v) Q E ⟨hp, g, d, tk, os⟩ :=
      fun q => B.iter prog w _ _ ⟨hp, g, d, tk, os⟩ _ h1 q
    have hsub := sub_enumerate
    wp_walk using q1
    refine wpAny_stack_any (fun st => wpAny_pure ?_)
    split
    · rename_i c _ _ _ _ _
      cases (c == Value.type "enumerate") <;> (wp_walk using q1; exact ⟨_, rfl, h⟩)
    · wp_walk using q1
      exact ⟨_, rfl, h⟩
def enO (it : Addr) : Obj := { cls := .type "enumerate", data := .fields #[.none, .bool false, .ref it, rawInt 0, .none, .none] }
theorem call_enum1 {prog : Program} {w : World} {A : Around} {E : Value → Shared → Prop} {s : Shared} {v : Value} {o : Obj} {W : Heap → Prop} {Q : Value → Shared → Prop} (B : Begins v o W) (h1 : W s.heap)
    (q : ∀ h', IsEnum h' (s.heap.objs.size + 1) s.heap.objs.size 0 .none → h'.get? s.heap.objs.size = some o → (∀ b u, s.heap.get? b = some u → h'.get? b = some u) → Q (.ref (s.heap.objs.size + 1)) { s with heap := h' }) :
    wpAny (model prog w) A (call (.type "enumerate") [v]) Q E s := by
  refine callType_new F.called_enumerate (by decide) (F.typeCall_enumerate_1 _) (F.newCall_enumerate_1 _) (fun obj => F.args_object_init_2 obj _) F.entry_enumerate_new (meets_enum1 B) ⟨h1, ?_⟩
  have sz : (s.heap.push o).objs.size = s.heap.objs.size + 1 := Heap.size_push ..
  have en : ((s.heap.push o).push (enO s.heap.objs.size)).get? (s.heap.objs.size + 1) = some (enO s.heap.objs.size) := by
    have z := Heap.get?_push_size (s.heap.push o) (o := enO s.heap.objs.size) rfl
    rw [sz] at z
    exact z
  show _ ∧ _
  rw [sz]
  exact ⟨⟨_, en, rfl⟩, q _ en (Heap.get?_push_of_some _ (Heap.get?_push_size _ B.free)) (fun b u e => Heap.get?_push_of_some _ (Heap.get?_push_of_some _ e))⟩
/-- the tuple at a as it stands at each turn, place and item in a new pair -/
def IteT (K : PySem.W.Frag) (a : Addr) : It where
  go i H := ∃ (xs : List V) (x : V), SqT K H a xs ∧ xs[i]? = some x
  yld i H v H' := ∃ T x, v = .ref T ∧ H T = none ∧ H' = upd H T (.tup [.int (i : Nat), x]) ∧ ∀ xs, SqT K H a xs → xs[i]? = some x
  stop i H := ∃ xs : List V, SqT K H a xs ∧ xs.length = i
theorem turn_enumT {P : Program} {w : World} {K : PySem.W.Frag} {elts : List Expr} {kk : Nat} {tpos : Pos} (a e it : Addr) (ha : a ≠ it) (hae : e ≠ a) (hei : e ≠ it) :
    Turn P w K (.Tuple elts kk tpos) (IteT K a) [e, it] e (fun i h => (∃ old, IsEnum h e it ((i : Nat) : Int) old) ∧ h.IsTupleIter it a i) where
  mem := List.mem_cons_self
  obj := fun i h st b hb => by
    obtain ⟨⟨old, he⟩, o, ho, hc, hd⟩ := st
    rcases List.mem_cons.mp hb with z | z
    · exact ⟨_, by rw [z]; exact he, fun v q => by cases q⟩
    · have z' : b = it := List.mem_singleton.mp z
      exact ⟨o, by rw [z']; exact ho, fun v q => by rw [hd] at q; cases q⟩
  keep := fun i h h' st k => by
    obtain ⟨⟨old, he⟩, hi⟩ := st
    exact ⟨⟨old, k e List.mem_cons_self _ he⟩, hi.at fun o q => k it (List.mem_cons_of_mem _ List.mem_cons_self) o q⟩
  item := by
    intro X hP hw hK hc i pins s σ H E I hf st hg
    subst hP hw hK
    obtain ⟨⟨old, he⟩, hit⟩ := st
    obtain ⟨xs, x, hq, hx⟩ := hg
    obtain ⟨its, rv, p, hz⟩ := I.tuple hq
    obtain ⟨u, hu, ru⟩ := rv.get hx
    have tp : s.heap.IsTuple a its.toArray := p
    have lt1 : e < s.heap.objs.size := Heap.lt_size he
    have lt2 : it < s.heap.objs.size := by
      obtain ⟨_, q, _⟩ := hit
      exact Heap.lt_size q
    have hu2 : its.toArray[i]? = some u := by simpa using hu
    have hlt : i < its.toArray.size := by
      rcases Nat.lt_or_ge i its.toArray.size with z | z
      · exact z
      · rw [Array.getElem?_eq_none z] at hu2
        cases hu2
    have D := Draws.tuple (prog := X.prog) (w := X.w) (A := X.A.in1) (I.ok.hd hc) it a ha its.toArray
    refine wpAny_pyNext_enum_itemD D he ⟨hit, tp⟩ hlt hei (by simp [hei, hae]) ?_
    intro x' h' tk hx' ho hst' hT hsz hk
    rw [hu2] at hx'
    cases hx'
    refine ⟨_, rfl, wpAny_letOwnedTupleGo_enum (s := { s with heap := h', toks := tk + 1 }) ho ?_⟩
    intro h'' he' sb
    have ne1 : s.heap.objs.size ≠ e := Nat.ne_of_gt lt1
    have hT2 := (sb.2 _ ne1).trans hT
    have new : ObjOk X.prog X.w (upd H s.heap.objs.size (.tup [.int (i : Nat), x])) h'' s.heap.objs.size (.tup [.int (i : Nat), x]) :=
      ⟨by show 2 ≤ sizeLine; decide, [.int i tk, u], .cons ⟨_, rfl⟩ (.cons ru .nil), ⟨_, hT2, rfl, _, rfl⟩⟩
    have kp : ∀ b ob, b ∉ [e, it] → s.heap.get? b = some ob → h''.get? b = some ob := fun b ob hb q => by
      have b1 : b ≠ e := fun z => hb (by simp [z])
      have b2 : b ≠ it := fun z => hb (by simp [z])
      exact (sb.2 b b1).trans (hk b ob b1 b2 q)
    have I1 : Inv X pins σ (upd H s.heap.objs.size (.tup [.int (i : Nat), x])) { s with heap := h'', toks := tk + 1 } := I.turnedNew (ch := [e, it]) kp hf (Nat.le_refl _) new
    have fr : H s.heap.objs.size = none := I.hok.fresh (Nat.le_refl _)
    refine ⟨.ref s.heap.objs.size, _, I1, rfl, ⟨_, x, rfl, fr, rfl, fun ys hy => by rw [I.tuple_inj hy hq]; exact hx⟩, ⟨⟨u, ?_⟩, hst'.1.at fun o q => (sb.2 it hei.symm).trans q⟩, fun b hb => ?_⟩
    · have e1 : ((i + 1 : Nat) : Int) = (i : Int) + 1 := by omega
      rw [e1]
      exact he'
    · have hb' : b < s.heap.objs.size := by
        rcases List.mem_cons.mp hb with z | z
        · rw [z]
          exact lt1
        · rw [List.mem_singleton.mp z]
          exact lt2
      rw [upd_ne (Nat.ne_of_lt hb')]
      exact (hf b hb).1
  done := by
    intro X hP hw hK hc i pins s σ H E I hf st hg
    subst hP hw hK
    obtain ⟨⟨old, he⟩, hit⟩ := st
    obtain ⟨xs, hq, hx⟩ := hg
    obtain ⟨its, rv, p, hz⟩ := I.tuple hq
    have tp : s.heap.IsTuple a its.toArray := p
    obtain ⟨f0, f1, f2, f3, f4, f5⟩ := hf it (List.mem_cons_of_mem _ List.mem_cons_self)
    have hl := rv.length
    have D := Draws.tuple (prog := X.prog) (w := X.w) (A := X.A.in1) (I.ok.hd hc) it a ha its.toArray
    have ei : its.toArray.size = i := by
      rw [List.size_toArray, ← hl, hx]
    refine wpAny_pyNext_enum_endD D he ⟨by rw [ei]; exact hit, tp⟩ ?_
    intro h' eb
    exact ⟨rfl, I.turned (t' := s.toks) (fun b o hb q => eb b o hb q) f0 f1 f3 f4 f5⟩
  self := fun A i s Q E st h => by
    obtain ⟨⟨_, he⟩, _⟩ := st
    exact wpAny_pyIter_enum he h
def iEnumT (K : PySem.W.Frag) (ta : TA) : TI := fun σ H R => ta σ H fun vs H1 => ∃ a xs, vs = [.ref a] ∧ SqT K H1 a xs ∧ R (IteT K a) H1
theorem pi_enumT {X : Cx} {K : PySem.W.Frag} {e : Expr} {ta : TA} {p pos tpos : Pos} {elts : List Expr} {kk : Nat} (hK : X.K = K) (hg : Gl X "enumerate") (hm : X.mg "enumerate" = none) (ha : PA X [e] ta) (hs : starEach [e] X.env = [(false, eval e X.env)] := by rfl) :
    PI X (.Tuple elts kk tpos) (.Call (.Name "enumerate" p) [e] [] pos) (iEnumT K ta) := by
  subst hK
  refine ⟨fun pins s σ H R I h => Call_ (ld_blt I hg hm boot_enumerate (PyProof.Rows.callWith_type1 (thn (ha.run pos pins s σ H _ I h) ?_) hs rfl))⟩
  rintro us s1 ⟨vs, H1, I1, r1, a, xs, rfl, hq, q⟩
  obtain ⟨u, rfl, ru⟩ := vals1 r1
  cases ru
  obtain ⟨its, rv, p', hz⟩ := I1.tuple hq
  have tp : s1.heap.IsTuple a its.toArray := p'
  have la : a < s1.heap.objs.size := by
    obtain ⟨o, z, _⟩ := tp
    exact Heap.lt_size z
  refine call_enum1 (begins_tuple a its.toArray) tp ?_
  intro h' he hit hk
  refine wpAny_pyIter_enum he ?_
  have I2 : Inv X pins σ H1 { s1 with heap := h' } := I1.kept (t' := s1.toks) hk
  have n1 : a ≠ s1.heap.objs.size := Nat.ne_of_lt la
  have n2 : s1.heap.objs.size + 1 ≠ a := fun z => by rw [← z] at la; exact absurd la (Nat.not_lt.mpr (Nat.le_succ _))
  refine ⟨s1.heap.objs.size + 1, [s1.heap.objs.size + 1, s1.heap.objs.size], _, _, H1, rfl, I2, turn_enumT a (s1.heap.objs.size + 1) s1.heap.objs.size n1 n2 (Nat.succ_ne_self _), ⟨⟨.none, he⟩, ?_⟩, fun b hb => ?_, q⟩
  · exact ⟨_, hit, rfl, rfl⟩
  · have hle : s1.heap.objs.size ≤ b := by
      rcases List.mem_cons.mp hb with z | z
      · rw [z]
        exact Nat.le_succ _
      · rw [List.mem_singleton.mp z]
        exact Nat.le_refl _
    exact I1.fpOk hle (I1.hok.fresh hle)
theorem src_enumT {K : PySem.W.Frag} {S : Addr → Prop} {H0 : Hp} {a : Addr} {xs : List V} (h : H0 a = some (.tup xs)) (n : ¬ S a) :
    Src S (IteT K a) H0 xs.length (fun i x H' H2 => ∃ T y, x = .ref T ∧ H' T = none ∧ H2 = upd H' T (.tup [.int (i : Nat), y]) ∧ xs[i]? = some y) := by
  refine ⟨fun H' e => ⟨xs, SqT.of (e _ _ n h), rfl⟩, fun i H' hi e => ⟨xs, xs[i], SqT.of (e _ _ n h), by simp [hi]⟩, fun i H' x H2 hi e y => ?_⟩
  obtain ⟨T, y, h1, h2, h3, h4⟩ := y
  exact ⟨T, y, h1, h2, h3, h4 xs (SqT.of (e _ _ n h))⟩
def rForE (K : PySem.W.Frag) (g : TG) (tb : TS) (D0 : Ends) (σ : L2.St) (vs : List V) (H1 : Hp) : Prop := ∃ a xs, vs = [.ref a] ∧ SqT K H1 a xs ∧ ForOn (IteT K a) g tb D0 σ H1
section
variable {K : PySem.W.Frag} {S : Addr → Prop} {H H1 : Hp} {a : Addr} {xs : List V} {g : TG} {tb : TS} {σ : L2.St} {D0 : Ends} {ta : TA}
theorem e_forE : tFor (iEnumT K ta) g tb D0 σ H = ta σ H fun x H1 => rForE K g tb D0 σ x H1 := rfl
theorem forE (h : H1 a = some (.tup xs)) (hS : ¬ S a) (I : Nat → L2.St → Hp → Prop) (i0 : I 0 σ H1) (stay : ∀ i σ' H', I i σ' H' → Ext S H1 H')
    (step : ∀ i y σ' H' T, xs[i]? = some y → I i σ' H' → H' T = none → g (.ref T) σ' (upd H' T (.tup [.int (i : Nat), y])) fun σ2 H3 => tb { D0 with nx := I (i + 1), ct := I (i + 1), bk := D0.nx } σ2 H3) (fin : ∀ σ' H', I xs.length σ' H' → D0.nx σ' H') : rForE K g tb D0 σ [.ref a] H1 := by
  refine ⟨a, xs, rfl, SqT.of h, for_core (src_enumT h hS) I i0 stay ?_ fin⟩
  rintro i σ' H' hi hI x H2 ⟨T, y, rfl, hT, rfl, hy⟩
  exact step i y σ' H' T hy hI hT
end
end U
namespace U
open PySem PySem.Spec PyProof.Rows L2
theorem cutV_to (xs : List V) (n : Nat) : cutV xs none (some (n : Int)) = xs.take n := by
  unfold cutV
  rw [HT.sIx_none, HT.sIx_nat, List.drop_zero, Nat.sub_zero]
  by_cases h : n ≤ xs.length
  · rw [Nat.min_eq_left h]
  · rw [Nat.min_eq_right (by omega), List.take_of_length_le (by omega), List.take_of_length_le (by omega)]
theorem cutS_to (z : Str) (n : Nat) : cutS z none (some (n : Int)) = ofL ((cd z).take n) := by
  have hl := cd_len z
  unfold cutS
  rw [HT.sIx_none, HT.sIx_nat, List.drop_zero, Nat.sub_zero]
  show ofL ((cd z).take _) = _
  by_cases h : n ≤ z.length
  · rw [Nat.min_eq_left h]
  · rw [Nat.min_eq_right (by omega), List.take_of_length_le (by omega), List.take_of_length_le (by omega)]
end U
namespace U
theorem sum_ones {α : Type} (l : List α) : (l.map fun _ => 1).sum = l.length := by
  induction l with
  | nil => rfl
  | cons a r ih =>
    rw [List.map_cons, List.sum_cons, ih, List.length_cons]
    omega
end U
namespace U
open PySem PySem.Spec PyProof.Rows L2
theorem sql_sm {K : PySem.W.Frag} {H H' : Hp} {a : Addr} {xs : List V} (h : SqL K H a xs) (e : Same H H') : SqL K H' a xs :=
  h.elim (fun h => .inl (h.elim (fun h => .inl (e _ _ h)) fun ⟨o, h⟩ => .inr ⟨o, e _ _ h⟩)) fun h => .inr h
theorem at_int {xs : List V} {i : Int} {v : V} (h0 : 0 ≤ i) (g : xs[i.toNat]? = some v) : atI xs i = some v := by
  obtain ⟨n, rfl⟩ := Int.eq_ofNat_of_zero_le h0
  exact atI_nat g
theorem ixL {K : PySem.W.Frag} {H : Hp} {a : Addr} {xs : List V} {i : Int} {v : V} {Q : VK} (h : H a = some (.lst xs)) (g : xs[i.toNat]? = some v) (q : Q v H) (h0 : 0 ≤ i := by decide) : rIxU K (.ref a) (.int i) H Q := ⟨xs, v, .inl (SqL.of h), at_int h0 g, q⟩
theorem adI {H : Hp} {i j : Int} {Q : VK} (q : Q (.int (i + j)) H) : rAddU (.int i) (.int j) H Q := q
end U
namespace U
open PySem PySem.Spec PyProof.Rows L2
theorem e_lstRg {ta : TE} {σ : L2.St} {H : Hp} {Q : VK} : tLstRg (tRg1 ta) σ H Q = ta σ H fun x H1 => ∃ n, x = .int n ∧ RgOk 0 n ∧ ∀ q, H1 q = none → Q (.ref q) (upd H1 q (.lst (rgV 0 n))) := rfl
def lenP (s : Sh) (n : Nat) : Nat := if n ≤ s.limit then n else min s.head n + s.mark.length + min s.tail n
def lenR (row : List Sh) (n : Nat) : Nat := row.foldl (fun m s => lenP s m) n
/-- the places 0 .. n - 1 -/
def pl (i : Nat) : D := .int (i : Nat)
def nums (n : Nat) : List D := (List.range n).map pl
theorem nums_length (n : Nat) : (nums n).length = n := by unfold nums; rw [List.length_map, List.length_range]
end U
namespace U
open PySem PySem.Spec PyProof.Rows L2
structure PyOk (W k : Nat) (p : PyData) : Prop where
  lay : p.canLay0 = true
  itx : PyData.intsShort 13 p = true
  sh : PyData.showable p = true
  nd : PyData.hasDict p = false
  dep : PyData.depth p ≤ k
  wt : PyData.weight p ≤ W
structure PysOk (W k : Nat) (ps : List PyData) : Prop where
  lay : PyData.canLayAll0 ps = true
  itx : PyData.intsShortAll 13 ps = true
  sh : PyData.showableAll ps = true
  nd : PyData.hasDictAll ps = false
  dep : PyData.depthAll ps ≤ k
  wt : PyData.weightAll ps ≤ W
theorem PysOk.nil (W k : Nat) : PysOk W k [] := ⟨rfl, rfl, rfl, rfl, Nat.zero_le _, Nat.zero_le _⟩
theorem PysOk.cons {W W' k : Nat} {p : PyData} {ps : List PyData} (a : PyOk W k p) (b : PysOk W' k ps) : PysOk (W + 1 + W') k (p :: ps) := by
  obtain ⟨a1, a2, a3, a4, a5, a6⟩ := a
  obtain ⟨b1, b2, b3, b4, b5, b6⟩ := b
  refine ⟨?_, ?_, ?_, ?_, ?_, ?_⟩
  · rw [PyData.canLayAll0, a1, b1]; rfl
  · rw [PyData.intsShortAll, a2, b2]; rfl
  · rw [PyData.showableAll, a3, b3]; rfl
  · rw [PyData.hasDictAll, a4, b4]; rfl
  · rw [PyData.depthAll]; omega
  · rw [PyData.weightAll]; omega
theorem PyOk.mono {W W' k k' : Nat} {p : PyData} (a : PyOk W k p) (h : W ≤ W') (h2 : k ≤ k') : PyOk W' k' p := ⟨a.lay, a.itx, a.sh, a.nd, Nat.le_trans a.dep h2, Nat.le_trans a.wt h⟩
theorem PysOk.mono {W W' k k' : Nat} {p : List PyData} (a : PysOk W k p) (h : W ≤ W') (h2 : k ≤ k') : PysOk W' k' p := ⟨a.lay, a.itx, a.sh, a.nd, Nat.le_trans a.dep h2, Nat.le_trans a.wt h⟩
theorem PysOk.list {W k : Nat} {ps : List PyData} (a : PysOk W k ps) : PyOk W (k + 1) (.list ps) :=
  ⟨by rw [PyData.canLay0]; exact a.lay, by rw [PyData.intsShort]; exact a.itx, by rw [PyData.showable]; exact a.sh, by rw [PyData.hasDict]; exact a.nd, by rw [PyData.depth]; have := a.dep; omega, by rw [PyData.weight]; exact a.wt⟩
theorem PysOk.tuple {W k : Nat} {ps : List PyData} (a : PysOk W k ps) : PyOk W (k + 1) (.tuple ps) :=
  ⟨by rw [PyData.canLay0]; exact a.lay, by rw [PyData.intsShort]; exact a.itx, by rw [PyData.showable]; exact a.sh, by rw [PyData.hasDict]; exact a.nd, by rw [PyData.depth]; have := a.dep; omega, by rw [PyData.weight]; exact a.wt⟩
theorem PyOk.int {i : Int} (h : i.natAbs < 10 ^ 12) : PyOk 40 0 (.int i) := by
  refine ⟨rfl, ?_, ?_, rfl, by rw [PyData.depth]; exact Nat.le_refl _, ?_⟩
  · rw [PyData.intsShort]
    exact decide_eq_true (PyData.shown_int_le h)
  · rw [PyData.showable]
    refine decide_eq_true ?_
    have : i.natAbs.log2 ≤ 40 := by
      by_cases z : i.natAbs = 0
      · rw [z]; decide
      · exact Nat.le_of_lt_succ ((Nat.log2_lt z).mpr (Nat.lt_of_lt_of_le h (by decide)))
    omega
  · rw [PyData.weight]
    split
    · omega
    · have : i.natAbs.log2 < 40 := by
        by_cases z : i.natAbs = 0
        · rw [z]; decide
        · exact (Nat.log2_lt z).mpr (Nat.lt_of_lt_of_le h (by decide))
      omega
theorem PyOk.bl (b : Bool) : PyOk 0 0 (.bool b) := ⟨rfl, rfl, rfl, rfl, by rw [PyData.depth]; exact Nat.le_refl _, by rw [PyData.weight]; exact Nat.le_refl _⟩
theorem PyOk.non : PyOk 0 0 .none := ⟨rfl, rfl, rfl, rfl, by rw [PyData.depth]; exact Nat.le_refl _, by rw [PyData.weight]; exact Nat.le_refl _⟩
theorem PyOk.str {z : Str} {n : Nat} (h : PyData.strOk z = true) (hn : z.length ≤ n) : PyOk n 0 (.str z) :=
  ⟨by rw [PyData.canLay0]; exact h, rfl, rfl, rfl, by rw [PyData.depth]; exact Nat.le_refl _, by rw [PyData.weight]; exact hn⟩
theorem PyOk.shaped {W k : Nat} {p : PyData} (h : PyOk W k p) (hk : k ≤ 64) : SeqAt.shaped p = true := by
  unfold SeqAt.shaped
  rw [Bool.and_eq_true]
  exact ⟨h.lay, decide_eq_true (Nat.le_trans h.dep hk)⟩
theorem PyOk.fits {W k : Nat} {p : PyData} (h : PyOk W k p) (hW : W ≤ 1048576) : (PyData.shown p).length ≤ sizeLine :=
  PyData.shown_fits (B := 13) (by decide) (by decide) (PyData.leavesShort_of_canLay0 13 p h.lay h.itx) (Nat.le_trans h.wt hW)
/-- a datum that can be compared and shown -/
def okP (W k : Nat) (d : D) : Prop := ∃ p, D.py d = some p ∧ PyOk W k p
def okPs (W k : Nat) (ds : List D) : Prop := ∃ ps, D.pys ds = some ps ∧ PysOk W k ps
theorem okPs.nil (W k : Nat) : okPs W k [] := ⟨[], by rw [D.pys], .nil _ _⟩
theorem okPs.cons {W W' k : Nat} {d : D} {ds : List D} : okP W k d → okPs W' k ds → okPs (W + 1 + W') k (d :: ds) := fun ⟨p, e, a⟩ ⟨ps, e2, b⟩ => ⟨p :: ps, by rw [D.pys, e, e2], .cons a b⟩
theorem okPs.all {W k : Nat} : ∀ {ds : List D}, (∀ d ∈ ds, okP W k d) → okPs (ds.length * (W + 1)) k ds
  | [], _ => okPs.nil _ _
  | d :: ds, h => by
    obtain ⟨ps, e, a⟩ := okPs.cons (h d List.mem_cons_self) (okPs.all fun x hx => h x (List.mem_cons_of_mem _ hx))
    refine ⟨ps, e, a.mono ?_ (Nat.le_refl _)⟩
    rw [List.length_cons, Nat.succ_mul]
    omega
theorem okPs.list {W k : Nat} {ds : List D} : okPs W k ds → okP W (k + 1) (.lst ds) := fun ⟨ps, e, a⟩ => ⟨.list ps, by rw [D.py, e]; rfl, a.list⟩
theorem okPs.tuple {W k : Nat} {ds : List D} : okPs W k ds → okP W (k + 1) (.tup ds) := fun ⟨ps, e, a⟩ => ⟨.tuple ps, by rw [D.py, e]; rfl, a.tuple⟩
theorem okP.mono {W W' k k' : Nat} {d : D} : okP W k d → W ≤ W' → k ≤ k' → okP W' k' d := fun ⟨p, e, a⟩ h h2 => ⟨p, e, a.mono h h2⟩
theorem okP.int {i : Int} (h : i.natAbs < 10 ^ 12) : okP 40 0 (.int i) := ⟨_, by rw [D.py], .int h⟩
theorem okP.pl {i : Nat} (h : i < 10 ^ 12) : okP 40 0 (U.pl i) := okP.int (by omega)
end U
namespace U
open PySem PySem.Spec PyProof.Rows L2
section
variable {X : Cx}
def rMulS : R2 := fun x y H Q => ∃ z n, x = .str z ∧ y = .int n ∧ z.length ≤ 2000 ∧ 0 ≤ n ∧ n ≤ 8000 ∧ Q (.str (Txt.mul z n)) H
theorem op_mulS : OpR X (binaryOp .Mult) rMulS := by
  intro pins s σ H x y v u Q I rx ry h
  obtain ⟨z, n, rfl, rfl, hz, h0, h1, q⟩ := h
  obtain ⟨t, rfl⟩ := rx
  obtain ⟨t', rfl⟩ := ry
  exact PySem.SB.mul (mulOk_of 2000 8000 hz (by omega) (by omega) (by decide) (by decide)) fun t2 k => ⟨.str _, H, I.tok _, ⟨_, rfl⟩, q⟩
end
def tkS (n : Nat) (z : Str) : Str := ofL ((cd z).take n)
theorem tkS_len (n : Nat) (z : Str) : (tkS n z).length = min n z.length := by
  unfold tkS
  rw [← cd_len, cd_ofL, List.length_take, cd_len]
theorem tkS_ok {n m : Nat} {z : Str} (h : okText m z = true) : okText (min n m) (tkS n z) = true := by
  obtain ⟨h1, h2⟩ := okText_iff.mp h
  refine okText_iff.mpr ⟨by rw [tkS_len]; omega, fun c hc => h2 c ?_⟩
  unfold tkS at hc
  rw [cd_ofL] at hc
  exact List.mem_of_mem_take hc
theorem ok_mono {n m : Nat} {z : Str} (h : okText n z = true) (hm : n ≤ m) : okText m z = true := okText_iff.mpr ⟨Nat.le_trans (okText_iff.mp h).1 hm, (okText_iff.mp h).2⟩
theorem cd_append (a b : Str) : cd (a ++ b) = cd a ++ cd b := by
  show (a.cps ++ b.cps).toList = _
  rw [Array.toList_append]
  rfl
theorem len_append (a b : Str) : (a ++ b).length = a.length + b.length := by
  rw [← cd_len, cd_append, List.length_append, cd_len, cd_len]
theorem ok_append {n m : Nat} {a b : Str} (h : okText n a = true) (k : okText m b = true) : okText (n + m) (a ++ b) = true := by
  obtain ⟨h1, h2⟩ := okText_iff.mp h
  obtain ⟨k1, k2⟩ := okText_iff.mp k
  refine okText_iff.mpr ⟨by rw [len_append]; omega, fun c hc => ?_⟩
  rw [cd_append] at hc
  rcases List.mem_append.mp hc with z | z
  · exact h2 c z
  · exact k2 c z
theorem empty_append (a : Str) : Str.empty ++ a = a := by
  show (⟨#[] ++ a.cps⟩ : Str) = a
  rw [Array.empty_append]
def til (n : Nat) : Str := Str.ofString "~" ++ Str.ofString (toString (n : Int))
theorem til_ok : ∀ n, n ≤ 9 → okText 2 (til n) = true := by
  intro n h
  have : ∀ n, n < 10 → okText 2 (til n) = true := by decide +kernel
  exact this n (by omega)
theorem til_len : ∀ n, n ≤ 9 → (til n).length = 2 := by
  intro n h
  have : ∀ n, n < 10 → (til n).length = 2 := by decide +kernel
  exact this n (by omega)
theorem til_one : ∀ n m, n ≤ 9 → m ≤ 9 → til n = til m → n = m := by
  intro n m h k
  have : ∀ n, n < 10 → ∀ m, m < 10 → til n = til m → n = m := by decide +kernel
  exact this n (by omega) m (by omega)
inductive Ru where
  | count | free | tight
def Ru.str : Ru → Str
  | .count => "count"
  | .free => "free"
  | .tight => "tight"
def numS (r : Ru) (w : Nat) (b : Str) (n : Nat) : Str := (match r with | .tight => tkS (w - 2) b | _ => b) ++ til n
theorem append_inj {a b c : Str} (h : a ++ b = a ++ c) : b = c := by
  have e : cd a ++ cd b = cd a ++ cd c := by rw [← cd_append, ← cd_append, h]
  have e2 := List.append_cancel_left e
  have e3 : b.cps = c.cps := Array.toList_inj.mp e2
  cases b
  cases c
  exact congrArg Str.mk e3
theorem numS_one {r : Ru} {w : Nat} {b : Str} {n m : Nat} (hn : n ≤ 9) (hm : m ≤ 9) (h : numS r w b n = numS r w b m) : n = m := til_one n m hn hm (append_inj h)
theorem numS_ok {r : Ru} {w m n : Nat} {b : Str} (h : okText m b = true) (hn : n ≤ 9) : okText (m + 2) (numS r w b n) = true := by
  unfold numS
  refine ok_append ?_ (til_ok n hn)
  cases r with
  | tight => exact ok_mono (tkS_ok h) (Nat.min_le_right _ _)
  | count => exact h
  | free => exact h
/-- the least number that is not taken -/
def nextN (tk : List Str) (f : Nat → Str) : Nat → Nat → Nat
  | 0, n => n
  | k + 1, n => if f n ∈ tk then nextN tk f k (n + 1) else n
theorem nodup_le {α : Type} [DecidableEq α] : ∀ {xs ys : List α}, xs.Nodup → (∀ x ∈ xs, x ∈ ys) → xs.length ≤ ys.length
  | [], _, _, _ => Nat.zero_le _
  | x :: xs, ys, h, k => by
    have hx : x ∈ ys := k x List.mem_cons_self
    have h2 := List.nodup_cons.mp h
    have := nodup_le (xs := xs) (ys := ys.erase x) h2.2 fun z hz => (List.mem_erase_of_ne (show z ≠ x by intro e; subst e; exact h2.1 hz)).mpr (k z (List.mem_cons_of_mem _ hz))
    rw [List.length_erase_of_mem hx] at this
    have : 0 < ys.length := List.length_pos_of_mem hx
    rw [List.length_cons]
    omega
theorem pig {tk : List Str} {f : Nat → Str} (hf : ∀ i j, i ≤ tk.length + 2 → j ≤ tk.length + 2 → f i = f j → i = j) (h : ∀ j, 2 ≤ j → j ≤ tk.length + 2 → f j ∈ tk) : False := by
  have nd : ((List.range (tk.length + 1)).map fun i => f (i + 2)).Nodup := by
    unfold List.Nodup
    rw [List.pairwise_map]
    refine List.Pairwise.imp_of_mem ?_ (List.nodup_range (n := tk.length + 1))
    intro a b ha hb hab e
    have ha := List.mem_range.mp ha
    have hb := List.mem_range.mp hb
    have := hf _ _ (by omega) (by omega) e
    omega
  have := nodup_le nd fun x hx => by
    obtain ⟨i, hi, rfl⟩ := List.mem_map.mp hx
    have hi := List.mem_range.mp hi
    exact h _ (by omega) (by omega)
  rw [List.length_map, List.length_range] at this
  omega
/-- nextN is the number at which a search stops -/
theorem nextN_eq {tk : List Str} {f : Nat → Str} {m : Nat} (hm : f m ∉ tk) : ∀ (k n : Nat), n ≤ m → m ≤ n + k → (∀ j, n ≤ j → j < m → f j ∈ tk) → nextN tk f k n = m
  | 0, n, h1, h2, _ => by unfold nextN; omega
  | k + 1, n, h1, h2, h => by
    unfold nextN
    by_cases c : n = m
    · subst c
      rw [if_neg hm]
    · rw [if_pos (h n (Nat.le_refl _) (by omega))]
      exact nextN_eq hm k (n + 1) (by omega) (by omega) fun j a b => h j (by omega) b
def nameF (r : Ru) (w : Nat) (t : Str) (th : List (Str × Str)) : Str :=
  match r with
  | .count => if (th.filter fun p => decide (tkS w p.1 = tkS w t)).length = 0 then tkS w t else tkS w t ++ til ((th.filter fun p => decide (tkS w p.1 = tkS w t)).length + 1)
  | r => if tkS w t ∈ th.map (·.2) then numS r w (tkS w t) (nextN (th.map (·.2)) (numS r w (tkS w t)) th.length 2) else tkS w t
theorem nextN_le (tk : List Str) (f : Nat → Str) : ∀ k n, nextN tk f k n ≤ n + k
  | 0, n => by unfold nextN; omega
  | k + 1, n => by
    unfold nextN
    split
    · have := nextN_le tk f k (n + 1); omega
    · omega
theorem nameF_ok {r : Ru} {w : Nat} {t : Str} {th : List (Str × Str)} (hw : w ≤ 40) (ht : okText 200 t = true) (hl : th.length ≤ 7) : okText 42 (nameF r w t th) = true := by
  have b : okText 40 (tkS w t) = true := ok_mono (tkS_ok ht) (by omega)
  have hf := List.length_filter_le (fun p : Str × Str => decide (tkS w p.1 = tkS w t)) th
  have n1 := nextN_le (th.map (·.2)) (numS r w (tkS w t)) th.length 2
  unfold nameF
  cases r with
  | count =>
    show okText 42 (if _ then _ else _) = true
    split
    · exact ok_mono b (by decide)
    · exact ok_append b (til_ok _ (by omega))
  | free =>
    show okText 42 (if _ then _ else _) = true
    split
    · exact numS_ok b (by omega)
    · exact ok_mono b (by decide)
  | tight =>
    show okText 42 (if _ then _ else _) = true
    split
    · exact numS_ok b (by omega)
    · exact ok_mono b (by decide)
def thF (r : Ru) (w : Nat) (ts : List Str) : List (Str × Str) := ts.foldl (fun th t => th ++ [(t, nameF r w t th)]) []
theorem thF_snoc (r : Ru) (w : Nat) (ts : List Str) (t : Str) : thF r w (ts ++ [t]) = thF r w ts ++ [(t, nameF r w t (thF r w ts))] := by
  unfold thF
  rw [List.foldl_append]
  rfl
theorem thF_take {r : Ru} {w : Nat} {ts : List Str} {i : Nat} {t : Str} (h : ts[i]? = some t) : thF r w (ts.take (i + 1)) = thF r w (ts.take i) ++ [(t, nameF r w t (thF r w (ts.take i)))] := by
  rw [take_snoc h, thF_snoc]
theorem thF_len (r : Ru) (w : Nat) : ∀ n (ts : List Str), ts.length = n → (thF r w ts).length = n
  | 0, ts, h => by
    cases ts with
    | nil => rfl
    | cons a b => cases h
  | n + 1, ts, h => by
    have hne : ts ≠ [] := by rintro rfl; cases h
    have e := List.dropLast_concat_getLast hne
    rw [← e, thF_snoc, List.length_append, thF_len r w n ts.dropLast (by rw [List.length_dropLast]; omega)]
    rfl
def namesF (r : Ru) (w : Nat) (ts : List Str) : List Str := (thF r w ts).map (·.2)
def pD (p : Str × Str) : D := .tup [.str p.1, .str p.2]
theorem thF_ok {r : Ru} {w : Nat} (hw : w ≤ 40) {ts : List Str} (ht : ∀ t ∈ ts, okText 200 t = true) (hl : ts.length ≤ 8) : ∀ i, ∀ p ∈ thF r w (ts.take i), okText 200 p.1 = true ∧ okText 42 p.2 = true
  | 0 => fun p hp => by cases hp
  | i + 1 => fun p hp => by
    by_cases hi : i < ts.length
    · have e : ts[i]? = some ts[i] := List.getElem?_eq_getElem hi
      rw [thF_take e] at hp
      rcases List.mem_append.mp hp with z | z
      · exact thF_ok hw ht hl i p z
      · rw [List.mem_singleton.mp z]
        refine ⟨ht _ (List.getElem_mem hi), nameF_ok hw (ht _ (List.getElem_mem hi)) ?_⟩
        rw [thF_len r w (ts.take i).length _ rfl, List.length_take]
        omega
    · rw [List.take_of_length_le (by omega)] at hp
      rw [← List.take_of_length_le (show ts.length ≤ i by omega)] at hp
      exact thF_ok hw ht hl i p hp
def namerD (C : Addr) (r : Ru) (w : Nat) : D := .ins C ["rule", "width"] [.str r.str, .int w]
end U
namespace U
open PySem PySem.Spec PyProof.Rows L2
section
variable {K : PySem.W.Frag} {H : Hp} {Q : VK}
theorem adS {a b : Str} (h : a.length + b.length ≤ sizeLine) (q : Q (.str (a ++ b)) H) : rAddU (.str a) (.str b) H Q := ⟨h, q⟩
theorem ixS {z : Str} {i : Int} {c : Nat} (hz : z.length ≤ 1000000) (g : (cd z)[i.toNat]? = some c) (h0 : 0 ≤ i) (q : Q (.str (one c)) H) : rIxU K (.str z) (.int i) H Q := by
  obtain ⟨n, rfl⟩ := Int.eq_ofNat_of_zero_le h0
  rw [Int.toNat_natCast] at g
  refine ⟨c, ?_, atI_nat (show z.cps.toList[n]? = _ from g), q⟩
  rw [sizeLine_eq]
  omega
theorem eqI {i j : Int} (q : Q (.bl (decide (i = j))) H) : rEqU K (.int i) (.int j) H Q := ⟨rfl, by rw [show decide (V.int i = V.int j) = decide (i = j) by simp]; exact q⟩
theorem eqS {i j : Str} (q : Q (.bl (decide (i = j))) H) : rEqU K (.str i) (.str j) H Q := ⟨rfl, by rw [show decide (V.str i = V.str j) = decide (i = j) by simp]; exact q⟩
theorem joinL {p : Addr} {l : List Nat} (hp : H p = some (.lst (l.map fun c => V.str (one c)))) (hl : l.length ≤ 4000000) (q : Q (.str (ofL l)) H) : rJoin K (.str (Str.ofString "")) [.ref p] H Q := by
  refine ⟨_, p, l.map one, rfl, rfl, .inl (SqL.of (by rw [hp, List.map_map]; rfl)), ?_, ?_⟩
  · rw [List.map_map, List.length_map]
    have e4 : l.map ((fun x => x.length) ∘ one) = l.map fun _ => 1 := rfl
    rw [e4, sum_ones]
    show _ + _ * 0 ≤ _
    omega
  · rw [U.join_one1]
    exact q
end
end U
namespace U
open PySem PySem.Spec PyProof.Rows L2
theorem nmF {S : Addr → Prop} {H : Hp} {C : Addr} {v : V} {r : Ru} {wd : Nat} (h : Dt S H v (namerD C r wd)) : ∃ a dx, v = .ref a ∧ ¬ S a ∧ H a = some (.ins C dx [(("rule" : Str), .str r.str), ("width", .int wd)]) := by
  unfold namerD at h
  cases h with
  | @ins a _ dx fs _ _ n ha hn hs =>
    refine ⟨a, dx, rfl, n, ?_⟩
    match fs, hn, hs with
    | [(_, _), (_, _)], hn, .cons h1 (.cons h2 .nil) =>
      cases h1
      cases h2
      simp only [List.map_cons, List.map_nil, List.cons.injEq, and_true] at hn
      obtain ⟨rfl, rfl⟩ := hn
      exact ha
section
variable {K : PySem.W.Frag} {H : Hp} {Q : VK} {σ : L2.St}
theorem lenL {p : Addr} {xs : List V} (h : H p = some (.lst xs)) (q : Q (.int xs.length) H) : rLenU K [.ref p] H Q := ⟨xs, .inl (SqL.of h), q⟩
theorem lenT {p : Addr} {xs : List V} (h : H p = some (.tup xs)) (q : Q (.int xs.length) H) : rLenU K [.ref p] H Q := ⟨xs, .inr (SqT.of h), q⟩
theorem lenS {z : Str} (h : z.length ≤ 4000000) (q : Q (.int z.length) H) : rLenU K [.str z] H Q := ⟨by rw [sizeLine_eq]; omega, q⟩
theorem inV_str (x : Str) : ∀ l : List Str, inV (.str x) (l.map V.str) = decide (x ∈ l)
  | [] => rfl
  | y :: l => by
    show (eqV (.str y) (.str x) || inV (.str x) (l.map V.str)) = _
    rw [inV_str x l]
    show ((y == x) || decide (x ∈ l)) = _
    rw [Bool.eq_iff_iff]
    simp only [Bool.or_eq_true, beq_iff_eq, decide_eq_true_eq, List.mem_cons]
    exact ⟨fun h => h.elim (fun h => .inl h.symm) .inr, fun h => h.elim (fun h => .inl h.symm) .inr⟩
theorem flat_strs (l : List Str) : (l.map V.str).all flatV = true := by
  rw [List.all_eq_true]
  intro x h
  obtain ⟨y, _, rfl⟩ := List.mem_map.mp h
  rfl
theorem inL {p : Addr} {x : Str} {l : List Str} (h : H p = some (.lst (l.map V.str))) (q : Q (.bl (decide (x ∈ l))) H) : rInU K (.str x) (.ref p) H Q := ⟨_, .inl (SqL.of h), rfl, flat_strs l, by rw [inV_str]; exact q⟩
theorem ninL {p : Addr} {x : Str} {l : List Str} (h : H p = some (.lst (l.map V.str))) (q : Q (.bl (!decide (x ∈ l))) H) : rNinU K (.str x) (.ref p) H Q := ⟨_, .inl (SqL.of h), rfl, flat_strs l, by rw [inV_str]; exact q⟩
theorem fs2 {z : Str} {k : Nat} {i : Int} {Q : Str → Hp → Prop} (hk : σ[k]? = some (some (.int i))) (h1 : i.natAbs.log2 < 1920) (h2 : z.length + (Str.ofString (toString i)).length ≤ 1000) (q : Q (z ++ Str.ofString (toString i)) H) : tJs [tC (.str z), tFmt (tVar k)] Str.empty σ H Q := by
  refine ⟨z, rfl, ?_, _, hk, .inr ⟨i, rfl, h1, _, rfl, ?_, ?_⟩⟩
  · rw [empty_append, sizeLine_eq]
    omega
  · rw [empty_append, len_append, sizeLine_eq]
    omega
  · rw [empty_append]
    exact q
theorem small_log {n : Nat} (h : n ≤ 9) : ((n : Nat) : Int).natAbs.log2 < 1920 := by
  have b : ∀ n : Nat, n < 10 → ((n : Nat) : Int).natAbs.log2 < 1920 := by decide +kernel
  exact b n (by omega)
theorem fs_til {n : Nat} {k : Nat} {Q : Str → Hp → Prop} (hk : σ[k]? = some (some (.int (n : Int)))) (hn : n ≤ 9) (q : Q (til n) H) : tJs [tC (.str (Str.ofString "~")), tFmt (tVar k)] Str.empty σ H Q := by
  have e := til_len n hn
  unfold til at e
  rw [len_append] at e
  exact fs2 hk (small_log hn) (by omega) q
theorem fldC {a C dx : Addr} {fs : List (Str × V)} {f : Str} {v : V} {K : PySem.W.Frag} {R : V → Prop} (h : H a = some (.ins C dx fs)) (c : Cls K C) (n : NoAttr K C f) (l : fs.lookup f = some v) (q : R v) :
    ∃ x x_1 x_2, H a = some (HO.ins x x_1 x_2) ∧ Cls K x ∧ NoAttr K x f ∧ ∃ x, x_2.lookup f = some x ∧ R x := ⟨_, _, _, h, c, n, _, l, q⟩
end
theorem dt_pD {S : Addr → Prop} {H : Hp} {v : V} {p : Str × Str} (h : Dt S H v (pD p)) : ∃ a, v = .ref a ∧ ¬ S a ∧ H a = some (.tup [.str p.1, .str p.2]) := by
  obtain ⟨a, xs, rfl, n, ha, hs⟩ := dt_tup h
  refine ⟨a, rfl, n, ?_⟩
  cases hs with
  | cons h1 h2 =>
    cases h2 with
    | cons h2 h3 =>
      cases h3
      cases h1
      cases h2
      exact ha
theorem filter_snoc {α : Type} {l : List α} {p : α → Bool} {i : Nat} {x : α} (h : l[i]? = some x) : (l.take (i + 1)).filter p = (l.take i).filter p ++ (if p x = true then [x] else []) := by
  rw [take_snoc h, List.filter_append, List.filter_cons]
  split <;> simp
theorem dtA_strs {S : Addr → Prop} {H : Hp} : ∀ l : List Str, DtA S H (l.map V.str) (l.map D.str)
  | [] => .nil
  | z :: l => .cons (.str z) (dtA_strs l)
theorem namesF_len (r : Ru) (w : Nat) (ts : List Str) : (namesF r w ts).length = ts.length := by
  unfold namesF
  rw [List.length_map, thF_len r w ts.length ts rfl]
end U
namespace U
open PySem PySem.Spec PyProof.Rows L2 HT
section
variable {X : Cx}
def tRevT (K : PySem.W.Frag) (te : TE) : TE := fun σ H Q => te σ H fun x H1 => ∃ a xs, x = .ref a ∧ SqT K H1 a xs ∧ ∀ p, H1 p = none → Q (.ref p) (upd H1 p (.tup xs.reverse))
end
def showN (l : List Str) : Str := PyData.shown (.tuple (l.map PyData.str))
end U
namespace U
open PySem PySem.Spec PyProof.Rows L2
theorem thF_more (r : Ru) (w : Nat) : ∀ (b a : List Str), ∃ c, thF r w (a ++ b) = thF r w a ++ c
  | [], a => ⟨[], by rw [List.append_nil, List.append_nil]⟩
  | t :: b, a => by
    obtain ⟨c, hc⟩ := thF_more r w b (a ++ [t])
    exact ⟨_, by rw [show a ++ t :: b = (a ++ [t]) ++ b by simp, hc, thF_snoc, List.append_assoc]⟩
theorem thF_pre (r : Ru) (w : Nat) (ts : List Str) (k : Nat) (hk : k ≤ ts.length) : thF r w (ts.take k) = (thF r w ts).take k := by
  obtain ⟨c, hc⟩ := thF_more r w (ts.drop k) (ts.take k)
  rw [List.take_append_drop] at hc
  have l := thF_len r w (ts.take k).length _ rfl
  rw [List.length_take, Nat.min_eq_left hk] at l
  rw [hc, List.take_append_of_le_length (by omega)]
  exact (List.take_of_length_le (by omega)).symm
theorem namesF_at {r : Ru} {w : Nat} {ts : List Str} {k : Nat} {t : Str} (h : ts[k]? = some t) : (namesF r w ts)[k]? = some (nameF r w t (thF r w (ts.take k))) := by
  have hk : k < ts.length := (List.getElem?_eq_some_iff.mp h).1
  have e := thF_pre r w ts (k + 1) hk
  rw [thF_take h] at e
  have l := thF_len r w (ts.take k).length _ rfl
  rw [List.length_take, Nat.min_eq_left (by omega)] at l
  have : ((thF r w ts).take (k + 1))[k]? = some (t, nameF r w t (thF r w (ts.take k))) := by
    rw [← e, List.getElem?_append_right (by omega), l]
    simp
  rw [List.getElem?_take_of_lt (by omega)] at this
  unfold namesF
  rw [List.getElem?_map, this]
  rfl
end U
namespace V
open PySem PySem.Spec PyProof.Rows L2 U StX
/-- what may change -/
inductive MO where
  | lst (ds : List D)
  | dic (kvs : List (Key × D))
  | dct (kvs : List (List Key × D))
  | ins (C : Addr) (fs : List (Str × D))
  | tab (q : Str)
  | sys
  | xob (C : Addr) (fs : List (Str × D))
abbrev Mem := Addr → Option MO
def mset (M : Mem) (a : Addr) (o : MO) : Mem := fun b => if b = a then some o else M b
def mdel (M : Mem) (a : Addr) : Mem := fun b => if b = a then none else M b
theorem mset_same {M : Mem} {a : Addr} {o : MO} : mset M a o a = some o := if_pos rfl
theorem mset_ne {M : Mem} {a b : Addr} {o : MO} (h : b ≠ a) : mset M a o b = M b := if_neg h
theorem mset_set {M : Mem} {a : Addr} {o u : MO} : mset (mset M a o) a u = mset M a u := by
  funext b
  unfold mset
  split <;> rfl
theorem mdel_set {M : Mem} {a : Addr} {o : MO} (h : M a = none) : mdel (mset M a o) a = M := by
  funext b
  show (if b = a then none else if b = a then some o else M b) = M b
  by_cases c : b = a
  · rw [if_pos c, c, h]
  · rw [if_neg c, if_neg c]
/-- the fields of an exception whose dict is d -/
def XF (S : Addr → Prop) (H : Hp) (d : Option Addr) (fs : List (Str × D)) : Prop :=
  (d = none ∧ fs = []) ∨ ∃ dd gs, d = some dd ∧ ¬ S dd ∧ H dd = some (.xd gs) ∧ gs.map (·.1) = fs.map (·.1) ∧ DtA S H (gs.map (·.2)) (fs.map (·.2))
def Held (S : Addr → Prop) (H : Hp) (a : Addr) : MO → Prop
  | .lst ds => ∃ vs, H a = some (.lst vs) ∧ DtA S H vs ds
  | .dic kvs => ∃ ws, H a = some (.dK ws) ∧ ws.map (·.1) = kvs.map (·.1) ∧ DtA S H (ws.map (·.2)) (kvs.map (·.2))
  | .dct kvs => ∃ ws, H a = some (.dT ws) ∧ ws.map (·.1) = kvs.map (·.1) ∧ DtA S H (ws.map (·.2)) (kvs.map (·.2))
  | .ins C fs => ∃ dx gs, H a = some (.ins C dx gs) ∧ gs.map (·.1) = fs.map (·.1) ∧ DtA S H (gs.map (·.2)) (fs.map (·.2))
  | .tab q => ∃ ps : Array Value, H a = some (.tbl ps) ∧ TriplesOk ps.toList ∧ ∀ (pos : Pos) (cv : Value), codeAmong pos ps.toList = some cv → ∃ c, cv = .ref c ∧ H c = some (LamX.CodeO c q) ∧ ¬ S c
  | .sys => ∃ (o : Obj) (es : Array DictEntry) (ep : Nat), H a = some (.frz o (.ext fun _ => True)) ∧ o.data = .dict es ep
  | .xob C fs => ∃ (o : Obj) (us : Array Value), H a = some (.frz o (.ext fun _ => True)) ∧ o.cls = .ref C ∧ o.data = .fields us ∧ XF S H o.dict fs
structure Wo (S : Addr → Prop) (M : Mem) (H : Hp) : Prop where
  tr : ∀ a, S a → H a ≠ none
  mem : ∀ a mo, M a = some mo → S a ∧ Held S H a mo
structure Step (S : Addr → Prop) (M : Mem) (H : Hp) (S' : Addr → Prop) (M' : Mem) (H' : Hp) : Prop where
  keep : ∀ b o, M b = none → H b = some o → H' b = some o ∧ M' b = none ∧ (S' b ↔ S b)
/-- slots: what is known of them -/
abbrev Dl := List (Option D)
structure En (S : Addr → Prop) (H : Hp) (σ : L2.St) (δ : Dl) : Prop where
  len : σ.length = δ.length
  at_ : ∀ (i : Nat) (d : D), δ[i]? = some (some d) → ∃ v, σ[i]? = some (some v) ∧ Dt S H v d
section
variable {S S' S1 S2 : Addr → Prop} {M M' M1 M2 : Mem} {H H' H1 H2 : Hp} {σ : L2.St} {δ : Dl}
theorem Step.refl : Step S M H S M H := ⟨fun _ _ h e => ⟨e, h, Iff.rfl⟩⟩
theorem Step.trans (a : Step S M H S1 M1 H1) (b : Step S1 M1 H1 S2 M2 H2) : Step S M H S2 M2 H2 := ⟨fun c o h e => by
  obtain ⟨e1, h1, s1⟩ := a.keep c o h e
  obtain ⟨e2, h2, s2⟩ := b.keep c o h1 e1
  exact ⟨e2, h2, s2.trans s1⟩⟩
theorem Wo.mn (w : Wo S M H) {a : Addr} (h : ¬ S a) : M a = none := by
  cases e : M a with
  | none => rfl
  | some mo => exact (h (w.mem a mo e).1).elim
theorem Wo.ns (w : Wo S M H) {a : Addr} (h : H a = none) : ¬ S a := fun z => w.tr a z h
theorem Wo.fresh (w : Wo S M H) {a : Addr} (h : H a = none) : M a = none := w.mn (w.ns h)
mutual
theorem dt_step (w : Wo S M H) (t : Step S M H S' M' H') : ∀ (d : D) {v : V}, Dt S H v d → Dt S' H' v d
  | .non, _, h => by cases h; exact .non
  | .bl b, _, h => by cases h; exact .bl b
  | .int i, _, h => by cases h; exact .int i
  | .str x, _, h => by cases h; exact .str x
  | .ptr x, _, h => by cases h; exact .ptr x
  | .ty x, _, h => by cases h; exact .ty x
  | .lst ds, _, h => by
    cases h with
    | lst n ha hs =>
      obtain ⟨e1, h1, s1⟩ := t.keep _ _ (w.mn n) ha
      exact .lst (fun z => n (s1.mp z)) e1 (dtA_step w t ds hs)
  | .tup ds, _, h => by
    cases h with
    | tup n ha hs =>
      obtain ⟨e1, h1, s1⟩ := t.keep _ _ (w.mn n) ha
      exact .tup (fun z => n (s1.mp z)) e1 (dtA_step w t ds hs)
  | .ins C ns ds, _, h => by
    cases h with
    | ins n ha hn hs =>
      obtain ⟨e1, h1, s1⟩ := t.keep _ _ (w.mn n) ha
      exact .ins (fun z => n (s1.mp z)) e1 hn (dtA_step w t ds hs)
  | .opq a o, _, h => by
    cases h with
    | opq n ha =>
      obtain ⟨e1, h1, s1⟩ := t.keep _ _ (w.mn n) ha
      exact .opq (fun z => n (s1.mp z)) e1
  | .ftp ds, _, h => by
    cases h with
    | ftp n ha hd hs =>
      obtain ⟨e1, h1, s1⟩ := t.keep _ _ (w.mn n) ha
      exact .ftp (fun z => n (s1.mp z)) e1 hd (dtA_step w t ds hs)
theorem dtA_step (w : Wo S M H) (t : Step S M H S' M' H') : ∀ (ds : List D) {vs : List V}, DtA S H vs ds → DtA S' H' vs ds
  | [], _, h => by cases h; exact .nil
  | d :: ds, _, h => by
    cases h with
    | cons h1 h2 => exact .cons (dt_step w t d h1) (dtA_step w t ds h2)
end
theorem En.step (e : En S H σ δ) (w : Wo S M H) (t : Step S M H S' M' H') : En S' H' σ δ :=
  ⟨e.len, fun i d h => by
    obtain ⟨v, h1, h2⟩ := e.at_ i d h
    exact ⟨v, h1, dt_step w t d h2⟩⟩
theorem En.set (e : En S H σ δ) {i : Nat} {v : V} {d : D} (h : Dt S H v d) : En S H (σ.set i (some v)) (δ.set i (some d)) := by
  refine ⟨by rw [List.length_set, List.length_set]; exact e.len, fun j y hj => ?_⟩
  by_cases c : i = j
  · subst c
    by_cases l : i < δ.length
    · rw [List.getElem?_set_self l] at hj
      cases hj
      exact ⟨v, List.getElem?_set_self (by rw [e.len]; exact l), h⟩
    · rw [List.getElem?_eq_none (by rw [List.length_set]; omega)] at hj
      cases hj
  · rw [List.getElem?_set_ne c] at hj
    rw [List.getElem?_set_ne c]
    exact e.at_ j y hj
theorem En.unset (e : En S H σ δ) {i : Nat} {o : Option V} : En S H (σ.set i o) (δ.set i none) := by
  refine ⟨by rw [List.length_set, List.length_set]; exact e.len, fun j y hj => ?_⟩
  by_cases c : i = j
  · subst c
    by_cases l : i < δ.length
    · rw [List.getElem?_set_self l] at hj
      cases hj
    · rw [List.getElem?_eq_none (by rw [List.length_set]; omega)] at hj
      cases hj
  · rw [List.getElem?_set_ne c] at hj
    rw [List.getElem?_set_ne c]
    exact e.at_ j y hj
def wipeD (δ : Dl) : List Nat → Dl
  | [] => δ
  | v :: vs => (wipeD δ vs).set v none
theorem En.wipe (e : En S H σ δ) : ∀ vs : List Nat, En S H (L2.wipe σ vs) (wipeD δ vs)
  | [] => e
  | v :: vs => (En.wipe e vs).unset
/-- an object that no store speaks of -/
theorem Wo.new (w : Wo S M H) {p : Addr} {o : HO} (h : H p = none) : Wo S M (upd H p o) := by
  refine ⟨fun a s => ?_, fun a mo e => ?_⟩
  · rw [upd_ne (fun z => w.tr a s (by rw [z]; exact h))]
    exact w.tr a s
  · obtain ⟨s, k⟩ := w.mem a mo e
    have na : a ≠ p := fun z => w.tr a s (by rw [z]; exact h)
    refine ⟨s, ?_⟩
    cases mo with
    | lst ds =>
      obtain ⟨vs, h1, h2⟩ := k
      exact ⟨vs, (upd_ne na).trans h1, h2.sm (Same.new h)⟩
    | dic ds =>
      obtain ⟨vs, h1, h3, h2⟩ := k
      exact ⟨vs, (upd_ne na).trans h1, h3, h2.sm (Same.new h)⟩
    | dct ds =>
      obtain ⟨vs, h1, h3, h2⟩ := k
      exact ⟨vs, (upd_ne na).trans h1, h3, h2.sm (Same.new h)⟩
    | ins C ds =>
      obtain ⟨dx, vs, h1, h3, h2⟩ := k
      exact ⟨dx, vs, (upd_ne na).trans h1, h3, h2.sm (Same.new h)⟩
    | tab q =>
      obtain ⟨ps, h1, h2, h3⟩ := k
      refine ⟨ps, (upd_ne na).trans h1, h2, fun pos cv hc => ?_⟩
      obtain ⟨c, e1, e2, e3⟩ := h3 pos cv hc
      exact ⟨c, e1, Same.new h _ _ e2, e3⟩
    | sys =>
      obtain ⟨o, es, ep, h1, h2⟩ := k
      exact ⟨o, es, ep, (upd_ne na).trans h1, h2⟩
    | xob C fs =>
      obtain ⟨o, us, h1, h2, h3, h4⟩ := k
      exact ⟨o, us, (upd_ne na).trans h1, h2, h3, h4.imp id fun ⟨dd, gs, e1, e2, e3, e4, e5⟩ => ⟨dd, gs, e1, e2, Same.new h _ _ e3, e4, e5.sm (Same.new h)⟩⟩
theorem Step.new {p : Addr} {o : HO} (h : H p = none) : Step S M H S M (upd H p o) := ⟨fun b u n e => ⟨Same.new h b u e, n, Iff.rfl⟩⟩
/-- the heap grows, the store stays -/
theorem Wo.same (w : Wo S M H) (e : Same H H') : Wo S M H' := by
  refine ⟨fun a s => ?_, fun a mo k => ?_⟩
  · cases h : H a with
    | none => exact (w.tr a s h).elim
    | some o =>
      rw [e _ _ h]
      exact fun z => nomatch z
  · obtain ⟨s, k⟩ := w.mem a mo k
    refine ⟨s, ?_⟩
    cases mo with
    | lst ds =>
      obtain ⟨vs, h1, h2⟩ := k
      exact ⟨vs, e _ _ h1, h2.sm e⟩
    | dic ds =>
      obtain ⟨vs, h1, h3, h2⟩ := k
      exact ⟨vs, e _ _ h1, h3, h2.sm e⟩
    | dct ds =>
      obtain ⟨vs, h1, h3, h2⟩ := k
      exact ⟨vs, e _ _ h1, h3, h2.sm e⟩
    | ins C ds =>
      obtain ⟨dx, vs, h1, h3, h2⟩ := k
      exact ⟨dx, vs, e _ _ h1, h3, h2.sm e⟩
    | tab q =>
      obtain ⟨ps, h1, h2, h3⟩ := k
      refine ⟨ps, e _ _ h1, h2, fun pos cv hc => ?_⟩
      obtain ⟨c, e1, e2, e3⟩ := h3 pos cv hc
      exact ⟨c, e1, e _ _ e2, e3⟩
    | sys =>
      obtain ⟨o, es, ep, h1, h2⟩ := k
      exact ⟨o, es, ep, e _ _ h1, h2⟩
    | xob C fs =>
      obtain ⟨o, us, h1, h2, h3, h4⟩ := k
      exact ⟨o, us, e _ _ h1, h2, h3, h4.imp id fun ⟨dd, gs, e1, e2, e3, e4, e5⟩ => ⟨dd, gs, e1, e2, e _ _ e3, e4, e5.sm e⟩⟩
theorem Step.same (e : Same H H') : Step S M H S M H' := ⟨fun b u n h => ⟨e _ _ h, n, Iff.rfl⟩⟩
/-- one more object stands apart -/
theorem held_set {a : Addr} {mo : MO} (f : ∀ a, ¬ S a → H a ≠ none → ¬ S' a) (k : Held S H a mo) : Held S' H a mo := by
  cases mo with
  | lst ds =>
    obtain ⟨vs, h1, h2⟩ := k
    exact ⟨vs, h1, DtA.set f ds h2⟩
  | dic ds =>
    obtain ⟨vs, h1, h3, h2⟩ := k
    exact ⟨vs, h1, h3, DtA.set f _ h2⟩
  | dct ds =>
    obtain ⟨vs, h1, h3, h2⟩ := k
    exact ⟨vs, h1, h3, DtA.set f _ h2⟩
  | ins C ds =>
    obtain ⟨dx, vs, h1, h3, h2⟩ := k
    exact ⟨dx, vs, h1, h3, DtA.set f _ h2⟩
  | tab q =>
    obtain ⟨ps, h1, h2, h3⟩ := k
    refine ⟨ps, h1, h2, fun pos cv hc => ?_⟩
    obtain ⟨c, e1, e2, e3⟩ := h3 pos cv hc
    exact ⟨c, e1, e2, f _ e3 (by rw [e2]; exact fun z => nomatch z)⟩
  | sys => exact k
  | xob C fs =>
    obtain ⟨o, us, h1, h2, h3, h4⟩ := k
    exact ⟨o, us, h1, h2, h3, h4.imp id fun ⟨dd, gs, e1, e2, e3, e4, e5⟩ => ⟨dd, gs, e1, f _ e2 (by rw [e3]; exact fun z => nomatch z), e3, e4, DtA.set f _ e5⟩⟩
theorem held_ext {a : Addr} {mo : MO} (e : Ext S H H') (ha : ∀ o, H a = some o → H' a = some o) (k : Held S H a mo) : Held S H' a mo := by
  cases mo with
  | lst ds =>
    obtain ⟨vs, h1, h2⟩ := k
    exact ⟨vs, ha _ h1, h2.go e⟩
  | dic ds =>
    obtain ⟨vs, h1, h3, h2⟩ := k
    exact ⟨vs, ha _ h1, h3, h2.go e⟩
  | dct ds =>
    obtain ⟨vs, h1, h3, h2⟩ := k
    exact ⟨vs, ha _ h1, h3, h2.go e⟩
  | ins C ds =>
    obtain ⟨dx, vs, h1, h3, h2⟩ := k
    exact ⟨dx, vs, ha _ h1, h3, h2.go e⟩
  | tab q =>
    obtain ⟨ps, h1, h2, h3⟩ := k
    refine ⟨ps, ha _ h1, h2, fun pos cv hc => ?_⟩
    obtain ⟨c, e1, e2, e3⟩ := h3 pos cv hc
    exact ⟨c, e1, e _ _ e3 e2, e3⟩
  | sys =>
    obtain ⟨o, es, ep, h1, h2⟩ := k
    exact ⟨o, es, ep, ha _ h1, h2⟩
  | xob C fs =>
    obtain ⟨o, us, h1, h2, h3, h4⟩ := k
    exact ⟨o, us, ha _ h1, h2, h3, h4.imp id fun ⟨dd, gs, e1, e2, e3, e4, e5⟩ => ⟨dd, gs, e1, e2, e _ _ e2 e3, e4, e5.go e⟩⟩
theorem Wo.apart (w : Wo S M H) {p : Addr} {o : HO} (h : H p = none) : Wo (fun a => S a ∨ a = p) M (upd H p o) := by
  have w1 := w.new (o := o) h
  refine ⟨fun a s => ?_, fun a mo e => ?_⟩
  · rcases s with s | rfl
    · exact w1.tr a s
    · rw [upd_same]
      exact fun z => nomatch z
  · obtain ⟨s, k⟩ := w.mem a mo e
    have na : a ≠ p := fun z => w.tr a s (by rw [z]; exact h)
    have k1 : Held (fun a => S a ∨ a = p) H a mo := held_set (fun b n k z => z.elim n fun q => k (by rw [q]; exact h)) k
    exact ⟨.inl s, held_ext (Ext.of (Same.new h)) (fun u hu => (upd_ne na).trans hu) k1⟩
theorem Step.apart {p : Addr} {o : HO} (h : H p = none) : Step S M H (fun a => S a ∨ a = p) M (upd H p o) := ⟨fun b u n e => ⟨Same.new h b u e, n, ⟨fun z => z.elim id fun q => (ne_of_none e h q).elim, .inl⟩⟩⟩
/-- .. and may change -/
theorem Wo.mutable (w : Wo S M H) {p : Addr} {o : HO} {mo : MO} (h : H p = none) (k : Held (fun a => S a ∨ a = p) (upd H p o) p mo) : Wo (fun a => S a ∨ a = p) (mset M p mo) (upd H p o) := by
  have w1 := w.apart (o := o) h
  refine ⟨w1.tr, fun a mo' e => ?_⟩
  by_cases c : a = p
  · subst c
    rw [mset_same] at e
    cases e
    exact ⟨.inr rfl, k⟩
  · rw [mset_ne c] at e
    exact w1.mem a mo' e
theorem Step.mutable (w : Wo S M H) {p : Addr} {o : HO} {mo : MO} (h : H p = none) : Step S M H (fun a => S a ∨ a = p) (mset M p mo) (upd H p o) := ⟨fun b u n e => ⟨Same.new h b u e, by rw [mset_ne (ne_of_none e h)]; exact n, ⟨fun z => z.elim id fun q => (ne_of_none e h q).elim, .inl⟩⟩⟩
/-- a change -/
theorem Wo.change (w : Wo S M H) {p : Addr} {o : HO} {mo mo' : MO} (h : M p = some mo) (k : Held S (upd H p o) p mo') : Wo S (mset M p mo') (upd H p o) := by
  have sp := (w.mem p mo h).1
  have ex : Ext S H (upd H p o) := Ext.mut (Ext.refl _) sp
  refine ⟨fun a s => ?_, fun a m e => ?_⟩
  · by_cases c : a = p
    · rw [c, upd_same]
      exact fun z => nomatch z
    · rw [upd_ne c]
      exact w.tr a s
  · by_cases c : a = p
    · subst c
      rw [mset_same] at e
      cases e
      exact ⟨sp, k⟩
    · rw [mset_ne c] at e
      obtain ⟨s, q⟩ := w.mem a m e
      exact ⟨s, held_ext ex (fun u hu => (upd_ne c).trans hu) q⟩
theorem Step.change {p : Addr} {o : HO} {mo mo' : MO} (h : M p = some mo) : Step S M H S (mset M p mo') (upd H p o) := ⟨fun b u n e => by
  have c : b ≠ p := by rintro rfl; rw [h] at n; cases n
  exact ⟨(upd_ne c).trans e, (mset_ne c).trans n, Iff.rfl⟩⟩
/-- an object changes no more -/
theorem Wo.freeze (w : Wo S M H) {p : Addr} : Wo (fun a => S a ∧ a ≠ p) (mdel M p) H := by
  refine ⟨fun a s => w.tr a s.1, fun a mo e => ?_⟩
  unfold mdel at e
  split at e
  · cases e
  · rename_i c
    obtain ⟨s, k⟩ := w.mem a mo e
    exact ⟨⟨s, c⟩, held_set (fun b n _ z => n z.1) k⟩
theorem Step.freeze {p : Addr} {mo : MO} (h : M p = some mo) : Step S M H (fun a => S a ∧ a ≠ p) (mdel M p) H := ⟨fun b u n e => by
  have c : b ≠ p := by rintro rfl; rw [h] at n; cases n
  exact ⟨e, (if_neg c).trans n, ⟨fun z => z.1, fun z => ⟨z, c⟩⟩⟩⟩
theorem dtA_freeze {p : Addr} {v : List V} {d : List D} (h : DtA S H v d) : DtA (fun a => S a ∧ a ≠ p) H v d := DtA.set (fun b n _ z => n z.1) d h
/-- what has been made since is of no use -/
def Mle (M M' : Mem) : Prop := ∀ a mo, M a = some mo → M' a = some mo
theorem Wo.drop (w : Wo S M' H) (l : Mle M M') : Wo S M H := ⟨w.tr, fun a mo e => w.mem a mo (l a mo e)⟩
end
abbrev QD := D → Mem → Prop
abbrev DE := Dl → Mem → QD → Prop
abbrev DT := Dl → Mem → (Bool → Mem → Prop) → Prop
abbrev DA := Dl → Mem → (List D → Mem → Prop) → Prop
/-- what is reached: S', M', H' behind S, M, H -/
def AtE (S : Addr → Prop) (M : Mem) (H : Hp) (P : QD) (Q : VK) : Prop := ∀ d S' M' v H', P d M' → Step S M H S' M' H' → Wo S' M' H' → Dt S' H' v d → Q v H'
def AtT (S : Addr → Prop) (M : Mem) (H : Hp) (P : Bool → Mem → Prop) (Q : Bool → Hp → Prop) : Prop := ∀ b S' M' H', P b M' → Step S M H S' M' H' → Wo S' M' H' → Q b H'
def AtA (S : Addr → Prop) (M : Mem) (H : Hp) (P : List D → Mem → Prop) (Q : List V → Hp → Prop) : Prop := ∀ ds S' M' vs H', P ds M' → Step S M H S' M' H' → Wo S' M' H' → DtA S' H' vs ds → Q vs H'
class PuE (t : TE) (dt : outParam DE) : Prop where
  run : ∀ S M σ δ H P Q, Wo S M H → En S H σ δ → dt δ M P → AtE S M H P Q → t σ H Q
class PuT (t : TT) (dt : outParam DT) : Prop where
  run : ∀ S M σ δ H P Q, Wo S M H → En S H σ δ → dt δ M P → AtT S M H P Q → t σ H Q
class PuA (t : TA) (dt : outParam DA) : Prop where
  run : ∀ S M σ δ H P Q, Wo S M H → En S H σ δ → dt δ M P → AtA S M H P Q → t σ H Q
section
variable {S S' : Addr → Prop} {M M' : Mem} {H H' : Hp}
theorem AtE.go {P : QD} {Q : VK} (a : AtE S M H P Q) (t : Step S M H S' M' H') : AtE S' M' H' P Q := fun d S2 M2 v H2 p t2 w2 h => a d S2 M2 v H2 p (t.trans t2) w2 h
theorem AtT.go {P : Bool → Mem → Prop} {Q : Bool → Hp → Prop} (a : AtT S M H P Q) (t : Step S M H S' M' H') : AtT S' M' H' P Q := fun d S2 M2 H2 p t2 w2 => a d S2 M2 H2 p (t.trans t2) w2
theorem AtA.go {P : List D → Mem → Prop} {Q : List V → Hp → Prop} (a : AtA S M H P Q) (t : Step S M H S' M' H') : AtA S' M' H' P Q := fun d S2 M2 v H2 p t2 w2 h => a d S2 M2 v H2 p (t.trans t2) w2 h
end
/-- an operation on two values, over data -/
abbrev DR := D → D → Mem → QD → Prop
class OpD (r : R2) (rd : outParam DR) : Prop where
  run : ∀ S M H x y dx dy P Q, Wo S M H → Dt S H x dx → Dt S H y dy → rd dx dy M P → AtE S M H P Q → r x y H Q
abbrev DC := List D → Mem → QD → Prop
class CbD (r : List V → Hp → VK → Prop) (rd : outParam DC) : Prop where
  run : ∀ S M H vs ds P Q, Wo S M H → DtA S H vs ds → rd ds M P → AtE S M H P Q → r vs H Q
/-- a tuple of either kind -/
def isTF (x : D) (xs : List D) : Prop := match x with
  | .tup ys => ys = xs
  | .ftp ys => ys = xs
  | _ => False
theorem tf_cases {x : D} {xs : List D} (h : isTF x xs) : x = .tup xs ∨ x = .ftp xs := by
  cases x <;> first | (cases h; exact .inl rfl) | (cases h; exact .inr rfl) | exact h.elim
theorem tf_get {S : Addr → Prop} {H : Hp} {v : V} {x : D} {xs : List D} (h : Dt S H v x) (e : isTF x xs) : ∃ a vs, v = .ref a ∧ ¬ S a ∧ Rd H a (.tup vs) ∧ DtA S H vs xs := by
  rcases tf_cases e with rfl | rfl
  · cases h with
    | tup n ha hs => exact ⟨_, _, rfl, n, Or.inl ha, hs⟩
  · cases h with
    | ftp n ha hd hs => exact ⟨_, _, rfl, n, Or.inr ⟨_, ha⟩, hs⟩
def dVar (i : Nat) : DE := fun δ M P => ∃ d, δ[i]? = some (some d) ∧ P d M
def dC (d : D) : DE := fun _ M P => P d M
def dOp (r : DR) (a b : DE) : DE := fun δ M P => a δ M fun x M1 => b δ M1 fun y M2 => r x y M2 P
def dNil : DA := fun _ M P => P [] M
def dCons (a : DE) (r : DA) : DA := fun δ M P => a δ M fun x M1 => r δ M1 fun xs M2 => P (x :: xs) M2
def dTup (t : DA) : DE := fun δ M P => t δ M fun xs M1 => xs.length ≤ sizeLine ∧ P (.tup xs) M1
def dLst (t : DA) : DE := fun δ M P => t δ M fun xs M1 => xs.length ≤ sizeLine ∧ P (.lst xs) M1
/-- a list that will change -/
def tLstM (t : TA) : TE := tLst t
def dLstM (t : DA) : DE := fun δ M P => t δ M fun xs M1 => xs.length ≤ sizeLine ∧ ∀ a, M1 a = none → P (.ptr a) (mset M1 a (.lst xs))
def dIf (c : DT) (a b : DE) : DE := fun δ M P => c δ M fun k M1 => if k = true then a δ M1 P else b δ M1 P
def dB (a : DE) : DT := fun δ M P => a δ M fun x M1 => ∃ b, x = .bl b ∧ P b M1
def dAnd (a b : DT) : DT := fun δ M P => a δ M fun c M1 => if c = true then b δ M1 P else P false M1
def dOr (a b : DT) : DT := fun δ M P => a δ M fun c M1 => if c = true then P true M1 else b δ M1 P
def dNot (a : DT) : DT := fun δ M P => a δ M fun c M1 => P (!c) M1
def dAndV (a b : DE) : DE := fun δ M P => a δ M fun x M1 => ∃ c, x = .bl c ∧ if c = true then b δ M1 P else P (.bl false) M1
def dOrV (a b : DE) : DE := fun δ M P => a δ M fun x M1 => ∃ c, x = .bl c ∧ if c = true then P (.bl true) M1 else b δ M1 P
def dNotV (a : DE) : DE := fun δ M P => a δ M fun x M1 => ∃ c, x = .bl c ∧ P (.bl (!c)) M1
def dChain (r r' : DR) (a b c : DE) : DE := fun δ M P => a δ M fun x M1 => b δ M1 fun y M2 => r x y M2 fun z M3 => ∃ k, z = .bl k ∧ if k = true then c δ M3 fun w M4 => r' y w M4 P else P (.bl false) M3
def dCB (r : DC) (t : DA) : DE := fun δ M P => t δ M fun xs M1 => r xs M1 P
def dThen (a : DE) (k : D → Mem → QD → Prop) : DE := fun δ M P => a δ M fun x M1 => k x M1 P
def dStar (a : DE) (t : DA) : DA := fun δ M P => a δ M fun x M1 => ∃ xs, (isTF x xs ∨ x = .lst xs ∨ ∃ p, x = .ptr p ∧ M1 p = some (.lst xs)) ∧ t δ M1 fun ys M2 => P (xs ++ ys) M2
section
variable {ta tb tc te : TE} {da db dc : DE} {r r' : R2} {rd rd' : DR} {t : TA} {dt : DA} {c c' : TT} {dk dk' : DT}
instance pu_var {i : Nat} : PuE (tVar i) (dVar i) := ⟨fun S M σ δ H P Q w e h k => by
  obtain ⟨d, hd, p⟩ := h
  obtain ⟨v, hv, hD⟩ := e.at_ i d hd
  exact ⟨v, hv, k d S M v H p .refl w hD⟩⟩
instance pu_non : PuE (tC .non) (dC .non) := ⟨fun S M σ δ H P Q w e h k => k _ S M _ H h .refl w .non⟩
instance pu_bl {b : Bool} : PuE (tC (.bl b)) (dC (.bl b)) := ⟨fun S M σ δ H P Q w e h k => k _ S M _ H h .refl w (.bl b)⟩
instance pu_int {b : Int} : PuE (tC (.int b)) (dC (.int b)) := ⟨fun S M σ δ H P Q w e h k => k _ S M _ H h .refl w (.int b)⟩
instance pu_str {b : Str} : PuE (tC (.str b)) (dC (.str b)) := ⟨fun S M σ δ H P Q w e h k => k _ S M _ H h .refl w (.str b)⟩
instance pu_ref {b : Addr} : PuE (tC (.ref b)) (dC (.ptr b)) := ⟨fun S M σ δ H P Q w e h k => k _ S M _ H h .refl w (.ptr b)⟩
instance pu_ty {b : String} : PuE (tC (.ty b)) (dC (.ty b)) := ⟨fun S M σ δ H P Q w e h k => k _ S M _ H h .refl w (.ty b)⟩
instance pu_op [A : PuE ta da] [B : PuE tb db] [R : OpD r rd] : PuE (tOp r ta tb) (dOp rd da db) := ⟨fun S M σ δ H P Q w e h k =>
  A.run S M σ δ H _ _ w e h fun d S1 M1 v H1 p1 t1 w1 h1 =>
    B.run S1 M1 σ δ H1 _ _ w1 (e.step w t1) p1 fun d2 S2 M2 v2 H2 p2 t2 w2 h2 =>
      R.run S2 M2 H2 _ _ _ _ P Q w2 (dt_step w1 t2 _ h1) h2 p2 (k.go (t1.trans t2))⟩
instance pu_nil : PuA tNil dNil := ⟨fun S M σ δ H P Q w e h k => k _ S M _ H h .refl w .nil⟩
instance pu_cons [A : PuE ta da] [B : PuA t dt] : PuA (tCons ta t) (dCons da dt) := ⟨fun S M σ δ H P Q w e h k =>
  A.run S M σ δ H _ _ w e h fun d S1 M1 v H1 p1 t1 w1 h1 =>
    B.run S1 M1 σ δ H1 _ _ w1 (e.step w t1) p1 fun d2 S2 M2 v2 H2 p2 t2 w2 h2 =>
      k _ S2 M2 _ H2 p2 (t1.trans t2) w2 (.cons (dt_step w1 t2 _ h1) h2)⟩
instance pu_tup [A : PuA t dt] : PuE (tTup t) (dTup dt) := ⟨fun S M σ δ H P Q w e h k =>
  A.run S M σ δ H _ _ w e h fun d S1 M1 v H1 p1 t1 w1 h1 => ⟨by rw [h1.length]; exact p1.1, fun p np =>
    k _ S1 M1 _ _ p1.2 (t1.trans (.new np)) (w1.new np) (.tup (w1.ns np) upd_same (h1.sm (Same.new np)))⟩⟩
instance pu_lst [A : PuA t dt] : PuE (tLst t) (dLst dt) := ⟨fun S M σ δ H P Q w e h k =>
  A.run S M σ δ H _ _ w e h fun d S1 M1 v H1 p1 t1 w1 h1 => ⟨by rw [h1.length]; exact p1.1, fun p np =>
    k _ S1 M1 _ _ p1.2 (t1.trans (.new np)) (w1.new np) (.lst (w1.ns np) upd_same (h1.sm (Same.new np)))⟩⟩
instance pu_lstM [A : PuA t dt] : PuE (tLstM t) (dLstM dt) := ⟨fun S M σ δ H P Q w e h k =>
  A.run S M σ δ H _ _ w e h fun d S1 M1 v H1 p1 t1 w1 h1 => ⟨by rw [h1.length]; exact p1.1, fun p np =>
    k _ _ _ _ _ (p1.2 p (w1.fresh np)) (t1.trans (Step.mutable w1 np)) (w1.mutable np ⟨_, upd_same, (DtA.set (fun b n k z => z.elim n fun q => k (by rw [q]; exact np)) _ h1).sm (Same.new np)⟩) (.ptr p)⟩⟩
instance pu_if [C : PuT c dk] [A : PuE ta da] [B : PuE tb db] : PuE (tIf c ta tb) (dIf dk da db) := ⟨fun S M σ δ H P Q w e h k =>
  C.run S M σ δ H _ _ w e h fun b S1 M1 H1 p1 t1 w1 => by
    cases b with
    | true =>
      rw [if_pos rfl] at p1 ⊢
      exact A.run S1 M1 σ δ H1 P Q w1 (e.step w t1) p1 (k.go t1)
    | false =>
      rw [if_neg Bool.false_ne_true] at p1 ⊢
      exact B.run S1 M1 σ δ H1 P Q w1 (e.step w t1) p1 (k.go t1)⟩
instance pu_tB [A : PuE ta da] : PuT (tB ta) (dB da) := ⟨fun S M σ δ H P Q w e h k =>
  A.run S M σ δ H _ _ w e h fun d S1 M1 v H1 p1 t1 w1 h1 => by
    obtain ⟨b, rfl, p1⟩ := p1
    cases h1
    exact ⟨b, rfl, k b S1 M1 H1 p1 t1 w1⟩⟩
instance pu_tTest [A : PuE ta da] : PuT (tTest ta) (dB da) := ⟨fun S M σ δ H P Q w e h k =>
  A.run S M σ δ H _ _ w e h fun d S1 M1 v H1 p1 t1 w1 h1 => by
    obtain ⟨b, rfl, p1⟩ := p1
    cases h1
    exact ⟨b, rfl, k b S1 M1 H1 p1 t1 w1⟩⟩
instance pu_and [A : PuT c dk] [B : PuT c' dk'] : PuT (tAnd c c') (dAnd dk dk') := ⟨fun S M σ δ H P Q w e h k =>
  A.run S M σ δ H _ _ w e h fun b S1 M1 H1 p1 t1 w1 => by
    cases b with
    | true =>
      rw [if_pos rfl] at p1 ⊢
      exact B.run S1 M1 σ δ H1 P Q w1 (e.step w t1) p1 (k.go t1)
    | false =>
      rw [if_neg Bool.false_ne_true] at p1 ⊢
      exact k false S1 M1 H1 p1 t1 w1⟩
instance pu_or [A : PuT c dk] [B : PuT c' dk'] : PuT (tOr c c') (dOr dk dk') := ⟨fun S M σ δ H P Q w e h k =>
  A.run S M σ δ H _ _ w e h fun b S1 M1 H1 p1 t1 w1 => by
    cases b with
    | true =>
      rw [if_pos rfl] at p1 ⊢
      exact k true S1 M1 H1 p1 t1 w1
    | false =>
      rw [if_neg Bool.false_ne_true] at p1 ⊢
      exact B.run S1 M1 σ δ H1 P Q w1 (e.step w t1) p1 (k.go t1)⟩
instance pu_not [A : PuT c dk] : PuT (tNot c) (dNot dk) := ⟨fun S M σ δ H P Q w e h k =>
  A.run S M σ δ H _ _ w e h fun b S1 M1 H1 p1 t1 w1 => k _ S1 M1 H1 p1 t1 w1⟩
instance pu_andV [A : PuE ta da] [B : PuE tb db] : PuE (tAndV ta tb) (dAndV da db) := ⟨fun S M σ δ H P Q w e h k =>
  A.run S M σ δ H _ _ w e h fun d S1 M1 v H1 p1 t1 w1 h1 => by
    obtain ⟨b, rfl, p1⟩ := p1
    cases h1
    refine ⟨b, rfl, ?_⟩
    cases b with
    | true =>
      rw [if_pos rfl] at p1 ⊢
      exact B.run S1 M1 σ δ H1 P Q w1 (e.step w t1) p1 (k.go t1)
    | false =>
      rw [if_neg Bool.false_ne_true] at p1 ⊢
      exact k _ S1 M1 _ H1 p1 t1 w1 (.bl false)⟩
instance pu_orV [A : PuE ta da] [B : PuE tb db] : PuE (tOrV ta tb) (dOrV da db) := ⟨fun S M σ δ H P Q w e h k =>
  A.run S M σ δ H _ _ w e h fun d S1 M1 v H1 p1 t1 w1 h1 => by
    obtain ⟨b, rfl, p1⟩ := p1
    cases h1
    refine ⟨b, rfl, ?_⟩
    cases b with
    | true =>
      rw [if_pos rfl] at p1 ⊢
      exact k _ S1 M1 _ H1 p1 t1 w1 (.bl true)
    | false =>
      rw [if_neg Bool.false_ne_true] at p1 ⊢
      exact B.run S1 M1 σ δ H1 P Q w1 (e.step w t1) p1 (k.go t1)⟩
instance pu_notV [A : PuE ta da] : PuE (tNotV ta) (dNotV da) := ⟨fun S M σ δ H P Q w e h k =>
  A.run S M σ δ H _ _ w e h fun d S1 M1 v H1 p1 t1 w1 h1 => by
    obtain ⟨b, rfl, p1⟩ := p1
    cases h1
    exact ⟨b, rfl, k _ S1 M1 _ H1 p1 t1 w1 (.bl _)⟩⟩
instance pu_chain [A : PuE ta da] [B : PuE tb db] [C : PuE tc dc] [R : OpD r rd] [R' : OpD r' rd'] : PuE (tChain r r' ta tb tc) (dChain rd rd' da db dc) := ⟨fun S M σ δ H P Q w e h k =>
  A.run S M σ δ H _ _ w e h fun d S1 M1 v H1 p1 t1 w1 h1 =>
    B.run S1 M1 σ δ H1 _ _ w1 (e.step w t1) p1 fun d2 S2 M2 v2 H2 p2 t2 w2 h2 =>
      R.run S2 M2 H2 _ _ _ _ _ _ w2 (dt_step w1 t2 _ h1) h2 p2 fun d3 S3 M3 v3 H3 p3 t3 w3 h3 => by
        obtain ⟨b, rfl, p3⟩ := p3
        cases h3
        refine ⟨b, rfl, ?_⟩
        have t13 := (t1.trans t2).trans t3
        cases b with
        | true =>
          rw [if_pos rfl] at p3 ⊢
          exact C.run S3 M3 σ δ H3 _ _ w3 (e.step w t13) p3 fun d4 S4 M4 v4 H4 p4 t4 w4 h4 => R'.run S4 M4 H4 _ _ _ _ P Q w4 (dt_step w2 (t3.trans t4) _ h2) h4 p4 (k.go (t13.trans t4))
        | false =>
          rw [if_neg Bool.false_ne_true] at p3 ⊢
          exact k _ S3 M3 _ H3 p3 t13 w3 (.bl false)⟩
instance pu_cb {r : List V → Hp → VK → Prop} {rd : DC} [A : PuA t dt] [R : CbD r rd] : PuE (tCB r t) (dCB rd dt) := ⟨fun S M σ δ H P Q w e h k =>
  A.run S M σ δ H _ _ w e h fun d S1 M1 v H1 p1 t1 w1 h1 => R.run S1 M1 H1 _ _ P Q w1 h1 p1 (k.go t1)⟩
instance pu_star {K : PySem.W.Frag} [A : PuE te da] [B : PuA t dt] : PuA (tStar K te t) (dStar da dt) := ⟨fun S M σ δ H P Q w e h k =>
  A.run S M σ δ H _ _ w e h fun d S1 M1 v H1 p1 t1 w1 h1 => by
    obtain ⟨xs, hx, p1⟩ := p1
    have go : ∀ vs, DtA S1 H1 vs xs → t σ H1 (fun ys H2 => Q (vs ++ ys) H2) := fun vs hvs =>
      B.run S1 M1 σ δ H1 _ _ w1 (e.step w t1) p1 fun d2 S2 M2 v2 H2 p2 t2 w2 h2 => k _ S2 M2 _ H2 p2 (t1.trans t2) w2 ((dtA_step w1 t2 _ hvs).append h2)
    rcases hx with hx | rfl | ⟨p, rfl, hp⟩
    · obtain ⟨a, vs, rfl, n, ha, hs⟩ := tf_get h1 hx
      exact ⟨_, _, rfl, .inl (Or.inl ha), go _ hs⟩
    · cases h1 with
      | lst n ha hs => exact ⟨_, _, rfl, .inr (SqL.of ha), go _ hs⟩
    · cases h1
      obtain ⟨_, vs, ha, hs⟩ := w1.mem p _ hp
      exact ⟨_, _, rfl, .inr (SqL.of ha), go _ hs⟩⟩
end
end V
namespace V
open PySem PySem.Spec PyProof.Rows L2 U StX
mutual
def D.eqb : D → D → Bool
  | .non, .non => true
  | .bl a, .bl b => a == b
  | .bl a, .int j => (if a then 1 else 0) == j
  | .int i, .bl b => i == (if b then 1 else 0)
  | .int i, .int j => i == j
  | .str x, .str y => x == y
  | .lst xs, .lst ys => D.eqbs xs ys
  | .tup xs, .tup ys => D.eqbs xs ys
  | .tup xs, .ftp ys => D.eqbs xs ys
  | .ftp xs, .tup ys => D.eqbs xs ys
  | .ftp xs, .ftp ys => D.eqbs xs ys
  | _, _ => false
def D.eqbs : List D → List D → Bool
  | [], [] => true
  | x :: xs, y :: ys => D.eqb x y && D.eqbs xs ys
  | _, _ => false
end
theorem py_lst {ds : List D} {p : PyData} (h : D.py (.lst ds) = some p) : ∃ ps, D.pys ds = some ps ∧ p = .list ps := by
  rw [D.py] at h
  obtain ⟨ps, h1, h2⟩ := Option.map_eq_some_iff.mp h
  exact ⟨ps, h1, h2.symm⟩
theorem py_tup {ds : List D} {p : PyData} (h : D.py (.tup ds) = some p) : ∃ ps, D.pys ds = some ps ∧ p = .tuple ps := by
  rw [D.py] at h
  obtain ⟨ps, h1, h2⟩ := Option.map_eq_some_iff.mp h
  exact ⟨ps, h1, h2.symm⟩
theorem py_ftp {ds : List D} {p : PyData} (h : D.py (.ftp ds) = some p) : ∃ ps, D.pys ds = some ps ∧ p = .tuple ps := by
  rw [D.py] at h
  obtain ⟨ps, h1, h2⟩ := Option.map_eq_some_iff.mp h
  exact ⟨ps, h1, h2.symm⟩
theorem pys_cons {d : D} {ds : List D} {q : List PyData} (h : D.pys (d :: ds) = some q) : ∃ p ps, D.py d = some p ∧ D.pys ds = some ps ∧ q = p :: ps := by
  rw [D.pys] at h
  cases h1 : D.py d with
  | none => rw [h1] at h; cases h
  | some p =>
    cases h2 : D.pys ds with
    | none => rw [h1, h2] at h; cases h
    | some ps => rw [h1, h2] at h; cases h; exact ⟨p, ps, rfl, rfl, rfl⟩
mutual
theorem eqv_py : ∀ (d e : D) (p q : PyData), D.py d = some p → D.py e = some q → PyData.eqv p q = D.eqb d e
  | .non, e, p, q, hp, hq => by
    rw [D.py] at hp; cases hp
    cases e <;> first | (rw [D.py] at hq; cases hq; first | rfl | (rw [PyData.eqv, D.eqb] <;> simp)) | (obtain ⟨_, _, rfl⟩ := py_lst hq; rw [PyData.eqv, D.eqb] <;> simp) | (obtain ⟨_, _, rfl⟩ := py_tup hq; rw [PyData.eqv, D.eqb] <;> simp) | (obtain ⟨_, _, rfl⟩ := py_ftp hq; rw [PyData.eqv, D.eqb] <;> simp) | (rw [D.py] at hq <;> first | cases hq | simp)
  | .bl b, e, p, q, hp, hq => by
    rw [D.py] at hp; cases hp
    cases e <;> first | (rw [D.py] at hq; cases hq; first | rfl | (rw [PyData.eqv, D.eqb] <;> simp)) | (obtain ⟨_, _, rfl⟩ := py_lst hq; rw [PyData.eqv, D.eqb] <;> simp) | (obtain ⟨_, _, rfl⟩ := py_tup hq; rw [PyData.eqv, D.eqb] <;> simp) | (obtain ⟨_, _, rfl⟩ := py_ftp hq; rw [PyData.eqv, D.eqb] <;> simp) | (rw [D.py] at hq <;> first | cases hq | simp)
  | .int i, e, p, q, hp, hq => by
    rw [D.py] at hp; cases hp
    cases e <;> first | (rw [D.py] at hq; cases hq; first | rfl | (rw [PyData.eqv, D.eqb] <;> simp)) | (obtain ⟨_, _, rfl⟩ := py_lst hq; rw [PyData.eqv, D.eqb] <;> simp) | (obtain ⟨_, _, rfl⟩ := py_tup hq; rw [PyData.eqv, D.eqb] <;> simp) | (obtain ⟨_, _, rfl⟩ := py_ftp hq; rw [PyData.eqv, D.eqb] <;> simp) | (rw [D.py] at hq <;> first | cases hq | simp)
  | .str x, e, p, q, hp, hq => by
    rw [D.py] at hp; cases hp
    cases e <;> first | (rw [D.py] at hq; cases hq; first | rfl | (rw [PyData.eqv, D.eqb] <;> simp)) | (obtain ⟨_, _, rfl⟩ := py_lst hq; rw [PyData.eqv, D.eqb] <;> simp) | (obtain ⟨_, _, rfl⟩ := py_tup hq; rw [PyData.eqv, D.eqb] <;> simp) | (obtain ⟨_, _, rfl⟩ := py_ftp hq; rw [PyData.eqv, D.eqb] <;> simp) | (rw [D.py] at hq <;> first | cases hq | simp)
  | .lst ds, e, p, q, hp, hq => by
    obtain ⟨ps, h1, rfl⟩ := py_lst hp
    cases e with
    | lst es =>
      obtain ⟨qs, h2, rfl⟩ := py_lst hq
      rw [PyData.eqv, D.eqb]
      exact eqvs_py ds es ps qs h1 h2
    | tup es => obtain ⟨_, _, rfl⟩ := py_tup hq; rw [PyData.eqv, D.eqb] <;> simp
    | ftp es => obtain ⟨_, _, rfl⟩ := py_ftp hq; rw [PyData.eqv, D.eqb] <;> simp
    | _ => first | (rw [D.py] at hq; cases hq; rw [PyData.eqv, D.eqb] <;> simp) | (rw [D.py] at hq <;> first | cases hq | simp)
  | .tup ds, e, p, q, hp, hq => by
    obtain ⟨ps, h1, rfl⟩ := py_tup hp
    cases e with
    | tup es =>
      obtain ⟨qs, h2, rfl⟩ := py_tup hq
      rw [PyData.eqv, D.eqb]
      exact eqvs_py ds es ps qs h1 h2
    | lst es => obtain ⟨_, _, rfl⟩ := py_lst hq; rw [PyData.eqv, D.eqb] <;> simp
    | ftp es =>
      obtain ⟨qs, h2, rfl⟩ := py_ftp hq
      rw [PyData.eqv, D.eqb]
      exact eqvs_py ds es ps qs h1 h2
    | _ => first | (rw [D.py] at hq; cases hq; rw [PyData.eqv, D.eqb] <;> simp) | (rw [D.py] at hq <;> first | cases hq | simp)
  | .ins C ns xs, e, p, q, hp, hq => by rw [D.py] at hp <;> first | cases hp | simp
  | .ptr a, e, p, q, hp, hq => by rw [D.py] at hp <;> first | cases hp | simp
  | .ty a, e, p, q, hp, hq => by rw [D.py] at hp <;> first | cases hp | simp
  | .opq a o, e, p, q, hp, hq => by rw [D.py] at hp <;> first | cases hp | simp
  | .ftp ds, e, p, q, hp, hq => by
    obtain ⟨ps, h1, rfl⟩ := py_ftp hp
    cases e with
    | tup es =>
      obtain ⟨qs, h2, rfl⟩ := py_tup hq
      rw [PyData.eqv, D.eqb]
      exact eqvs_py ds es ps qs h1 h2
    | ftp es =>
      obtain ⟨qs, h2, rfl⟩ := py_ftp hq
      rw [PyData.eqv, D.eqb]
      exact eqvs_py ds es ps qs h1 h2
    | lst es => obtain ⟨_, _, rfl⟩ := py_lst hq; rw [PyData.eqv, D.eqb] <;> simp
    | _ => first | (rw [D.py] at hq; cases hq; rw [PyData.eqv, D.eqb] <;> simp) | (rw [D.py] at hq <;> first | cases hq | simp)
theorem eqvs_py : ∀ (ds es : List D) (ps qs : List PyData), D.pys ds = some ps → D.pys es = some qs → PyData.eqvAll ps qs = D.eqbs ds es
  | [], [], ps, qs, hp, hq => by rw [D.pys] at hp hq; cases hp; cases hq; rw [PyData.eqvAll, D.eqbs]
  | [], e :: es, ps, qs, hp, hq => by
    obtain ⟨p, qs, h1, h2, rfl⟩ := pys_cons hq
    rw [D.pys] at hp; cases hp
    rw [PyData.eqvAll, D.eqbs] <;> simp
  | d :: ds, [], ps, qs, hp, hq => by
    obtain ⟨p, qs, h1, h2, rfl⟩ := pys_cons hp
    rw [D.pys] at hq; cases hq
    rw [PyData.eqvAll, D.eqbs] <;> simp
  | d :: ds, e :: es, ps, qs, hp, hq => by
    obtain ⟨p, ps, h1, h2, rfl⟩ := pys_cons hp
    obtain ⟨q, qs, h3, h4, rfl⟩ := pys_cons hq
    rw [PyData.eqvAll, D.eqbs, eqv_py d e p q h1 h3, eqvs_py ds es ps qs h2 h4]
end
/-- data that == looks through -/
def EqOk (d : D) : Prop := ∃ p, D.py d = some p ∧ SeqAt.shaped p = true
theorem EqOk.of {W k : Nat} {d : D} (h : okP W k d) (hk : k ≤ 64) : EqOk d := by
  obtain ⟨p, e, o⟩ := h
  exact ⟨p, e, o.shaped hk⟩
/-- what a name of a changing list stands for -/
def vw (M : Mem) (d : D) : D := match d with
  | .ptr a => match M a with
    | some (.lst ds) => .lst ds
    | _ => .ptr a
  | d => d
section
variable {S S' : Addr → Prop} {M M' : Mem} {H H' : Hp} {K : PySem.W.Frag}
theorem dt_vw (w : Wo S M H) {v : V} {d : D} {p : PyData} (h : Dt S H v d) (e : D.py (vw M d) = some p) : Dp K H v p := by
  cases d with
  | ptr a =>
    unfold vw at e
    cases hm : M a with
    | none => simp only [hm] at e; rw [D.py] at e <;> first | cases e | simp
    | some mo =>
      cases mo with
      | lst ds =>
        simp only [hm] at e
        cases h
        obtain ⟨_, vs, h1, h2⟩ := w.mem a _ hm
        obtain ⟨ps, e1, rfl⟩ := py_lst e
        exact .lst (SqL.of h1) (DtA.dp ds h2 e1)
      | dic ds => simp only [hm] at e; rw [D.py] at e <;> first | cases e | simp
      | dct ds => simp only [hm] at e; rw [D.py] at e <;> first | cases e | simp
      | ins C ds => simp only [hm] at e; rw [D.py] at e <;> first | cases e | simp
      | tab q => simp only [hm] at e; rw [D.py] at e <;> first | cases e | simp
      | sys => simp only [hm] at e; rw [D.py] at e <;> first | cases e | simp
      | xob C fs => simp only [hm] at e; rw [D.py] at e <;> first | cases e | simp
  | _ => exact Dt.dp _ h e
end
/-- == : flat values as they are, data by its contents -/
def rEqA (K : PySem.W.Frag) : R2 := fun x y H Q => (scal x y = true ∧ Q (.bl (decide (x = y))) H) ∨ rEqD K x y H Q
def rNeA (K : PySem.W.Frag) : R2 := fun x y H Q => (scal x y = true ∧ Q (.bl (!decide (x = y))) H) ∨ rNeD K x y H Q
section
variable {X : Cx} {K : PySem.W.Frag}
theorem op_eqA (h : X.K = K) (hu : X.A.units + 64 < cLine) : OpR X (compareOp .Eq) (rEqA K) := by
  subst h
  intro pins s σ H x y v u Q I rx ry h
  rcases h with h | h
  · exact op_eq pins s σ H _ _ v u Q I rx ry h
  · exact op_eqD hu pins s σ H _ _ v u Q I rx ry h
theorem op_neA (h : X.K = K) (hu : X.A.units + 64 < cLine) : OpR X (compareOp .NotEq) (rNeA K) := by
  subst h
  intro pins s σ H x y v u Q I rx ry h
  rcases h with h | h
  · exact op_ne pins s σ H _ _ v u Q I rx ry h
  · exact op_neD hu pins s σ H _ _ v u Q I rx ry h
end
def eqR (M : Mem) (x y : D) (P : Bool → Prop) : Prop := match x, y with
  | .int i, .int j => P (decide (i = j))
  | .str a, .str b => P (decide (a = b))
  | .bl a, .bl b => P (decide (a = b))
  | .non, .non => P true
  | .non, .str _ => P false
  | .str _, .non => P false
  | .non, .int _ => P false
  | .int _, .non => P false
  | .int _, .str _ => P false
  | .str _, .int _ => P false
  | x, y => EqOk (vw M x) ∧ EqOk (vw M y) ∧ P (D.eqb (vw M x) (vw M y))
theorem eqR_go {S : Addr → Prop} {M : Mem} {H : Hp} {K : PySem.W.Frag} (w : Wo S M H) {x y : V} {dx dy : D} {P : Bool → Prop} (hx : Dt S H x dx) (hy : Dt S H y dy) (h : eqR M dx dy P) :
    (∃ b, scal x y = true ∧ decide (x = y) = b ∧ P b) ∨ ∃ p q, Dp K H x p ∧ Dp K H y q ∧ SeqAt.shaped p = true ∧ SeqAt.shaped q = true ∧ P (PyData.eqv p q) := by
  have gen : EqOk (vw M dx) ∧ EqOk (vw M dy) ∧ P (D.eqb (vw M dx) (vw M dy)) → ∃ p q, Dp K H x p ∧ Dp K H y q ∧ SeqAt.shaped p = true ∧ SeqAt.shaped q = true ∧ P (PyData.eqv p q) := by
    rintro ⟨⟨p, e1, s1⟩, ⟨q, e2, s2⟩, hp⟩
    exact ⟨p, q, dt_vw w hx e1, dt_vw w hy e2, s1, s2, by rw [eqv_py _ _ p q e1 e2]; exact hp⟩
  unfold eqR at h
  split at h
  · cases hx; cases hy; exact .inl ⟨_, rfl, by simp, h⟩
  · cases hx; cases hy; exact .inl ⟨_, rfl, by simp, h⟩
  · cases hx; cases hy; exact .inl ⟨_, rfl, by simp, h⟩
  · cases hx; cases hy; exact .inl ⟨_, rfl, by simp, h⟩
  · cases hx; cases hy; exact .inl ⟨_, rfl, by simp, h⟩
  · cases hx; cases hy; exact .inl ⟨_, rfl, by simp, h⟩
  · cases hx; cases hy; exact .inl ⟨_, rfl, by simp, h⟩
  · cases hx; cases hy; exact .inl ⟨_, rfl, by simp, h⟩
  · cases hx; cases hy; exact .inl ⟨_, rfl, by simp, h⟩
  · cases hx; cases hy; exact .inl ⟨_, rfl, by simp, h⟩
  · exact .inr (gen h)
def rEq1 : DR := fun x y M P => eqR M x y fun b => P (.bl b) M
def rNe1 : DR := fun x y M P => eqR M x y fun b => P (.bl (!b)) M
instance op_eq1 {K : PySem.W.Frag} : OpD (rEqA K) rEq1 := ⟨fun S M H x y dx dy P Q w hx hy h k => by
  rcases eqR_go (K := K) w hx hy h with ⟨b, s, e, p⟩ | ⟨p, q, h1, h2, h3, h4, h5⟩
  · exact .inl ⟨s, by rw [e]; exact k _ S M _ H p .refl w (.bl _)⟩
  · exact .inr ⟨p, q, h1, h2, h3, h4, k _ S M _ H h5 .refl w (.bl _)⟩⟩
instance op_ne1 {K : PySem.W.Frag} : OpD (rNeA K) rNe1 := ⟨fun S M H x y dx dy P Q w hx hy h k => by
  rcases eqR_go (K := K) w hx hy h with ⟨b, s, e, p⟩ | ⟨p, q, h1, h2, h3, h4, h5⟩
  · exact .inl ⟨s, by rw [e]; exact k _ S M _ H p .refl w (.bl _)⟩
  · exact .inr ⟨p, q, h1, h2, h3, h4, k _ S M _ H h5 .refl w (.bl _)⟩⟩
/-- what stands in a list, a tuple -/
def isSq (M : Mem) (d : D) (xs : List D) : Prop := d = .lst xs ∨ isTF d xs ∨ ∃ a, d = .ptr a ∧ M a = some (.lst xs)
def isLs (M : Mem) (d : D) (xs : List D) : Prop := d = .lst xs ∨ ∃ a, d = .ptr a ∧ M a = some (.lst xs)
section
variable {S : Addr → Prop} {M : Mem} {H : Hp} {K : PySem.W.Frag} {v : V} {d : D} {xs : List D}
theorem sq_get (w : Wo S M H) (h : Dt S H v d) (e : isSq M d xs) : ∃ a vs, v = .ref a ∧ (H a = some (.lst vs) ∨ Rd H a (.tup vs)) ∧ DtA S H vs xs := by
  rcases e with rfl | e | ⟨a, rfl, e⟩
  · cases h with
    | lst n ha hs => exact ⟨_, _, rfl, .inl ha, hs⟩
  · obtain ⟨a, vs, rfl, n, ha, hs⟩ := tf_get h e
    exact ⟨_, _, rfl, .inr ha, hs⟩
  · cases h
    obtain ⟨_, vs, h1, h2⟩ := w.mem a _ e
    exact ⟨a, vs, rfl, .inl h1, h2⟩
theorem ls_get (w : Wo S M H) (h : Dt S H v d) (e : isLs M d xs) : ∃ a vs, v = .ref a ∧ H a = some (.lst vs) ∧ DtA S H vs xs := by
  rcases e with rfl | ⟨a, rfl, e⟩
  · cases h with
    | lst n ha hs => exact ⟨_, _, rfl, ha, hs⟩
  · cases h
    obtain ⟨_, vs, h1, h2⟩ := w.mem a _ e
    exact ⟨a, vs, rfl, h1, h2⟩
end
def rAdd1 : DR := fun x y M P => match x, y with
  | .int i, .int j => P (.int (i + j)) M
  | .str a, .str b => a.length + b.length ≤ sizeLine ∧ P (.str (a ++ b)) M
  | x, y => ∃ xs ys, isLs M x xs ∧ isLs M y ys ∧ xs.length + ys.length ≤ sizeLine ∧ P (.lst (xs ++ ys)) M
theorem rAddU_l {a b : Addr} {xs ys : List V} {H : Hp} {Q : VK} (h1 : H a = some (.lst xs)) (h2 : H b = some (.lst ys)) (hl : xs.length + ys.length ≤ sizeLine) (q : ∀ r, H r = none → Q (.ref r) (upd H r (.lst (xs ++ ys)))) : rAddU (.ref a) (.ref b) H Q := ⟨xs, ys, h1, h2, hl, q⟩
instance op_add1 : OpD rAddU rAdd1 := ⟨fun S M H x y dx dy P Q w hx hy h k => by
  unfold rAdd1 at h
  split at h
  · cases hx; cases hy; exact k _ S M _ H h .refl w (.int _)
  · cases hx; cases hy; exact ⟨h.1, k _ S M _ H h.2 .refl w (.str _)⟩
  · obtain ⟨xs, ys, h1, h2, hl, p⟩ := h
    obtain ⟨a, vs, rfl, ha, hs⟩ := ls_get w hx h1
    obtain ⟨b, ws, rfl, hb, ht⟩ := ls_get w hy h2
    exact rAddU_l ha hb (by rw [hs.length, ht.length]; exact hl) fun r nr => k _ S M _ _ p (.new nr) (w.new nr) (.lst (w.ns nr) upd_same ((hs.append ht).sm (Same.new nr)))⟩
/-- a value made of two numbers -/
class VD (f : Int → Int → V) (g : outParam (Int → Int → D)) : Prop where
  run : ∀ S H i j, Dt S H (f i j) (g i j)
instance vd_int {f : Int → Int → Int} : VD (fun i j => .int (f i j)) (fun i j => .int (f i j)) := ⟨fun _ _ _ _ => .int _⟩
instance vd_bl {f : Int → Int → Bool} : VD (fun i j => .bl (f i j)) (fun i j => .bl (f i j)) := ⟨fun _ _ _ _ => .bl _⟩
def rI1 (f : Int → Int → D) : DR := fun x y M P => ∃ i j, x = .int i ∧ y = .int j ∧ P (f i j) M
def rIC1 (C : Int → Int → Prop) (f : Int → Int → D) : DR := fun x y M P => ∃ i j, x = .int i ∧ y = .int j ∧ C i j ∧ P (f i j) M
instance op_I1 {f : Int → Int → V} {g : Int → Int → D} [F : VD f g] : OpD (rI0 f) (V.rI1 g) := ⟨fun S M H x y dx dy P Q w hx hy h k => by
  obtain ⟨i, j, rfl, rfl, p⟩ := h
  cases hx; cases hy
  exact ⟨i, j, rfl, rfl, k _ S M _ H p .refl w (F.run S H i j)⟩⟩
instance op_IC1 {C : Int → Int → Prop} {f : Int → Int → V} {g : Int → Int → D} [F : VD f g] : OpD (rI C f) (rIC1 C g) := ⟨fun S M H x y dx dy P Q w hx hy h k => by
  obtain ⟨i, j, rfl, rfl, c, p⟩ := h
  cases hx; cases hy
  exact ⟨i, j, rfl, rfl, c, k _ S M _ H p .refl w (F.run S H i j)⟩⟩
def rLt1 : DR := fun x y M P => match x, y with
  | .int i, .int j => P (.bl (decide (i < j))) M
  | .str i, .str j => P (.bl (decide (i.cps.toList < j.cps.toList))) M
  | _, _ => False
instance op_lt1 : OpD rLtU rLt1 := ⟨fun S M H x y dx dy P Q w hx hy h k => by
  unfold rLt1 at h
  split at h
  · cases hx; cases hy; exact k _ S M _ H h .refl w (.bl _)
  · cases hx; cases hy; exact k _ S M _ H h .refl w (.bl _)
  · exact h.elim⟩
def isNon : D → Bool
  | .non => true
  | _ => false
theorem isNon_V {S : Addr → Prop} {H : Hp} {x : V} {d : D} (h : Dt S H x d) : decide (x = V.non) = isNon d := by cases h <;> simp [isNon]
def rIsN1 : DR := fun x y M P => y = .non ∧ P (.bl (isNon x)) M
def rNotN1 : DR := fun x y M P => y = .non ∧ P (.bl (!isNon x)) M
instance op_isN1' : OpD rIsN rIsN1 := ⟨fun S M H x y dx dy P Q w hx hy h k => by
  obtain ⟨rfl, p⟩ := h
  cases hy
  refine ⟨rfl, ?_⟩
  rw [isNon_V hx]
  exact k _ S M _ H p .refl w (.bl _)⟩
instance op_notN1' : OpD rNotN rNotN1 := ⟨fun S M H x y dx dy P Q w hx hy h k => by
  obtain ⟨rfl, p⟩ := h
  cases hy
  refine ⟨rfl, ?_⟩
  rw [isNon_V hx]
  exact k _ S M _ H p .refl w (.bl _)⟩
def rIsB1 : DR := fun x y M P => ∃ a b, x = .bl a ∧ y = .bl b ∧ P (.bl (decide (a = b))) M
def rNotB1 : DR := fun x y M P => ∃ a b, x = .bl a ∧ y = .bl b ∧ P (.bl (!decide (a = b))) M
instance op_isB1 : OpD rIsB rIsB1 := ⟨fun S M H x y dx dy P Q w hx hy h k => by
  obtain ⟨a, b, rfl, rfl, p⟩ := h
  cases hx; cases hy
  exact ⟨a, b, rfl, rfl, k _ S M _ H p .refl w (.bl _)⟩⟩
instance op_notB1 : OpD rNotB rNotB1 := ⟨fun S M H x y dx dy P Q w hx hy h k => by
  obtain ⟨a, b, rfl, rfl, p⟩ := h
  cases hx; cases hy
  exact ⟨a, b, rfl, rfl, k _ S M _ H p .refl w (.bl _)⟩⟩
def flatD : D → Bool
  | .non => true
  | .bl _ => true
  | .int _ => true
  | .str _ => true
  | _ => false
section
variable {S : Addr → Prop} {H : Hp}
theorem flat_V {v : V} {d : D} (h : Dt S H v d) (f : flatD d = true) : flatV v = true := by
  cases h <;> first | rfl | cases f
theorem flats_V : ∀ {vs : List V} {ds : List D}, DtA S H vs ds → ds.all flatD = true → vs.all flatV = true
  | _, _, .nil, _ => rfl
  | _, _, .cons h t, f => by
    rw [List.all_cons, Bool.and_eq_true] at f
    rw [List.all_cons, flat_V h f.1, flats_V t f.2]
    rfl
theorem eqV_D {v u : V} {d e : D} (h : Dt S H v d) (k : Dt S H u e) (f : flatD d = true) (g : flatD e = true) : eqV v u = D.eqb d e := by
  cases h <;> first | (cases f; done) | (cases k <;> first | (cases g; done) | (first | rfl | (rw [D.eqb] <;> first | rfl | simp [eqV])))
theorem inV_D {v : V} {d : D} (h : Dt S H v d) (f : flatD d = true) : ∀ {vs : List V} {ds : List D}, DtA S H vs ds → ds.all flatD = true → inV v vs = ds.any fun e => D.eqb e d
  | _, _, .nil, _ => rfl
  | _, _, .cons h1 t, g => by
    rw [List.all_cons, Bool.and_eq_true] at g
    show (eqV _ v || inV v _) = _
    rw [List.any_cons, inV_D h f t g.2, eqV_D h1 h g.1 f]
end
def inR (M : Mem) (x y : D) (P : Bool → Prop) : Prop := match y with
  | .str z => ∃ c, x = .str (one c) ∧ P (decide (c ∈ cd z))
  | y => ∃ ys, isSq M y ys ∧ flatD x = true ∧ ys.all flatD = true ∧ P (ys.any fun e => D.eqb e x)
def rIn1 : DR := fun x y M P => inR M x y fun b => P (.bl b) M
def rNin1 : DR := fun x y M P => inR M x y fun b => P (.bl (!b)) M
theorem inR_go {S : Addr → Prop} {M : Mem} {H : Hp} {K : PySem.W.Frag} (w : Wo S M H) {x y : V} {dx dy : D} {P : Bool → Prop} (hx : Dt S H x dx) (hy : Dt S H y dy) (h : inR M dx dy P) :
    (∃ z c, y = .str z ∧ x = .str ⟨#[c]⟩ ∧ P (decide (c ∈ z.cps.toList))) ∨ ∃ p xs, y = .ref p ∧ (SqL K H p xs ∨ SqT K H p xs) ∧ flatV x = true ∧ xs.all flatV = true ∧ P (inV x xs) := by
  unfold inR at h
  split at h
  · rename_i z
    obtain ⟨c, rfl, p⟩ := h
    cases hx; cases hy
    exact .inl ⟨z, c, rfl, rfl, p⟩
  · obtain ⟨ys, hs, f, g, p⟩ := h
    obtain ⟨a, vs, rfl, ha, hv⟩ := sq_get w hy hs
    refine .inr ⟨a, vs, rfl, ?_, flat_V hx f, flats_V hv g, by rw [inV_D hx f hv g]; exact p⟩
    rcases ha with ha | ha
    · exact .inl (SqL.of ha)
    · exact .inr (Or.inl ha)
instance op_in1 {K : PySem.W.Frag} : OpD (rInU K) rIn1 := ⟨fun S M H x y dx dy P Q w hx hy h k => by
  rcases inR_go (K := K) w hx hy h with ⟨z, c, rfl, rfl, p⟩ | ⟨a, xs, rfl, h1, h2, h3, p⟩
  · exact ⟨c, rfl, k _ S M _ H p .refl w (.bl _)⟩
  · exact ⟨xs, h1, h2, h3, k _ S M _ H p .refl w (.bl _)⟩⟩
instance op_nin1 {K : PySem.W.Frag} : OpD (rNinU K) rNin1 := ⟨fun S M H x y dx dy P Q w hx hy h k => by
  rcases inR_go (K := K) w hx hy h with ⟨z, c, rfl, rfl, p⟩ | ⟨a, xs, rfl, h1, h2, h3, p⟩
  · exact ⟨c, rfl, k _ S M _ H p .refl w (.bl _)⟩
  · exact ⟨xs, h1, h2, h3, k _ S M _ H p .refl w (.bl _)⟩⟩
/-- in a tuple of texts that the module keeps -/
def rInKT (l : List Str) (a : Addr) (neg : Bool) : R2 := fun x y H Q => y = .ref a ∧ ∃ z, x = .str z ∧ Q (.bl (decide (z ∈ l) != neg)) H
theorem inV_strs (x : Str) : ∀ l : List Str, inV (.str x) (l.map V.str) = decide (x ∈ l)
  | [] => rfl
  | y :: l => by
    show (eqV (.str y) (.str x) || inV (.str x) (l.map V.str)) = _
    rw [inV_strs x l]
    show ((y == x) || decide (x ∈ l)) = _
    rw [Bool.eq_iff_iff]
    simp only [Bool.or_eq_true, beq_iff_eq, decide_eq_true_eq, List.mem_cons]
    exact ⟨fun h => h.elim (fun h => .inl h.symm) .inr, fun h => h.elim (fun h => .inl h.symm) .inr⟩
theorem flatV_strs (l : List Str) : (l.map V.str).all flatV = true := by
  rw [List.all_eq_true]
  intro x h
  obtain ⟨y, _, rfl⟩ := List.mem_map.mp h
  rfl
theorem op_ninKT {X : Cx} {l : List Str} {a : Addr} (h : ∀ H : Hp, SqT X.K H a (l.map V.str)) : OpR X (compareOp .NotIn) (rInKT l a true) := by
  intro pins s σ H x y v u Q I rx ry q
  obtain ⟨rfl, z, rfl, q⟩ := q
  refine op_notIn_seq pins s σ H _ _ v u Q I rx ry ⟨a, _, rfl, .inr (h H), rfl, flatV_strs l, ?_⟩
  rw [inV_strs]
  simpa using q
def rInKT1 (l : List Str) (a : Addr) (neg : Bool) : DR := fun x y M P => y = .ptr a ∧ ∃ z, x = .str z ∧ P (.bl (decide (z ∈ l) != neg)) M
instance op_inKT1 {l : List Str} {a : Addr} {neg : Bool} : OpD (rInKT l a neg) (rInKT1 l a neg) := ⟨fun S M H x y dx dy P Q w hx hy h k => by
  obtain ⟨rfl, z, rfl, p⟩ := h
  cases hx; cases hy
  exact ⟨rfl, z, rfl, k _ S M _ H p .refl w (.bl _)⟩⟩
def rIx1 : DR := fun x y M P => match x, y with
  | .str z, .int i => ∃ c, z.length ≤ sizeLine ∧ atI (cd z) i = some c ∧ P (.str (one c)) M
  | x, .int i => ∃ xs d, isSq M x xs ∧ atI xs i = some d ∧ P d M
  | _, _ => False
theorem at_dt {S : Addr → Prop} {H : Hp} {vs : List V} {ds : List D} (h : DtA S H vs ds) {i : Int} {d : D} (e : atI ds i = some d) : ∃ v, atI vs i = some v ∧ Dt S H v d := by
  unfold atI at e ⊢
  rw [h.length]
  cases hi : ixN ds.length i with
  | none => rw [hi] at e; cases e
  | some j =>
    rw [hi] at e
    exact h.get e
instance op_ix1 {K : PySem.W.Frag} : OpD (rIxU K) rIx1 := ⟨fun S M H x y dx dy P Q w hx hy h k => by
  unfold rIx1 at h
  split at h
  · obtain ⟨c, h1, h2, p⟩ := h
    cases hx; cases hy
    exact ⟨c, h1, h2, k _ S M _ H p .refl w (.str _)⟩
  · obtain ⟨xs, d, h1, h2, p⟩ := h
    cases hy
    obtain ⟨a, vs, rfl, ha, hv⟩ := sq_get w hx h1
    obtain ⟨v, e, hd⟩ := at_dt hv h2
    refine ⟨vs, v, ?_, e, k _ S M _ H p .refl w hd⟩
    rcases ha with ha | ha
    · exact .inl (SqL.of ha)
    · exact .inr (Or.inl ha)
  · exact h.elim⟩
theorem dtA_rep {S : Addr → Prop} {H : Hp} {vs : List V} {ds : List D} (h : DtA S H vs ds) : ∀ n, DtA S H (List.replicate n vs).flatten (List.replicate n ds).flatten
  | 0 => .nil
  | n + 1 => by
    rw [List.replicate_succ, List.replicate_succ, List.flatten_cons, List.flatten_cons]
    exact h.append (dtA_rep h n)
def rRep1 : DR := fun x y M P => ∃ xs k, isLs M x xs ∧ y = .int k ∧ -(2 ^ 63) ≤ k ∧ k < 2 ^ 63 ∧ xs.length * k.toNat ≤ sizeLine ∧ P (.lst (List.replicate k.toNat xs).flatten) M
instance op_rep1 : OpD rRep rRep1 := ⟨fun S M H x y dx dy P Q w hx hy h k => by
  obtain ⟨xs, j, h1, rfl, h2, h3, h4, p⟩ := h
  cases hy
  obtain ⟨a, vs, rfl, ha, hv⟩ := ls_get w hx h1
  exact ⟨a, j, vs, rfl, rfl, ha, h2, h3, by rw [hv.length]; exact h4, fun q nq => k _ S M _ _ p (.new nq) (w.new nq) (.lst (w.ns nq) upd_same ((dtA_rep hv _).sm (Same.new nq)))⟩⟩
end V
namespace V
open PySem PySem.Spec PyProof.Rows L2 U StX
def cutG {α : Type} (xs : List α) (lo hi : Option Int) : List α := (xs.drop (HT.sIx xs.length 0 lo)).take (HT.sIx xs.length xs.length hi - HT.sIx xs.length 0 lo)
def rSlZ (K : PySem.W.Frag) : V → Option Int → Option Int → Hp → VK → Prop := fun x lo hi H Q => match x with
  | .str z => z.length ≤ sizeLine ∧ Q (.str (cutS z lo hi)) H
  | x => rSlA K x lo hi H Q ∨ rSlL K x lo hi H Q
theorem sl_Z {X : Cx} {K : PySem.W.Frag} (h : X.K = K) : SlR X (rSlZ K) := by
  subst h
  intro pins s σ H x v vl vu lo hi sl Q I rx hs pl pu h
  cases x with
  | str z => exact sl_str pins s σ H _ v vl vu lo hi sl Q I rx hs pl pu ⟨z, rfl, h.1, h.2⟩
  | _ =>
    rcases h with h | h
    · exact sl_tupA pins s σ H _ v vl vu lo hi sl Q I rx hs pl pu h
    · exact sl_list pins s σ H _ v vl vu lo hi sl Q I rx hs pl pu h
abbrev DO := Dl → Mem → (Option Int → Mem → Prop) → Prop
class PuO (t : TO) (dt : outParam DO) : Prop where
  run : ∀ S M σ δ H (P : Option Int → Mem → Prop) (Q : Option Int → Hp → Prop), Wo S M H → En S H σ δ → dt δ M P → (∀ o S' M' H', P o M' → Step S M H S' M' H' → Wo S' M' H' → Q o H') → t σ H Q
def dNoPart : DO := fun _ M P => P none M
def dPart (a : DE) : DO := fun δ M P => a δ M fun x M1 => ∃ i, x = .int i ∧ P (some i) M1
instance pu_noPart : PuO tNoPart dNoPart := ⟨fun S M σ δ H P Q w e h k => k none S M H h .refl w⟩
instance pu_part {ta : TE} {da : DE} [A : PuE ta da] : PuO (tPart ta) (dPart da) := ⟨fun S M σ δ H P Q w e h k =>
  A.run S M σ δ H _ _ w e h fun d S1 M1 v H1 p1 t1 w1 h1 => by
    obtain ⟨i, rfl, p1⟩ := p1
    cases h1
    exact ⟨i, rfl, k _ S1 M1 H1 p1 t1 w1⟩⟩
def rSl1 (x : D) (lo hi : Option Int) (M : Mem) (P : QD) : Prop := match x with
  | .str z => z.length ≤ sizeLine ∧ P (.str (cutS z lo hi)) M
  | .tup xs => P (.tup (cutG xs lo hi)) M
  | x => ∃ xs, isLs M x xs ∧ P (.lst (cutG xs lo hi)) M
def dSl (a : DE) (l h : DO) : DE := fun δ M P => a δ M fun x M1 => l δ M1 fun lo M2 => h δ M2 fun hi M3 => rSl1 x lo hi M3 P
theorem dtA_cut {S : Addr → Prop} {H : Hp} {vs : List V} {ds : List D} (h : DtA S H vs ds) (lo hi : Option Int) : DtA S H (cutV vs lo hi) (cutG ds lo hi) := by
  unfold cutV cutG
  rw [h.length]
  exact (h.drop _).take _
theorem cutG_whole {α : Type} {xs : List α} {lo hi : Option Int} (h : HT.sIx xs.length 0 lo = 0 ∧ HT.sIx xs.length xs.length hi = xs.length) : cutG xs lo hi = xs := by
  unfold cutG
  rw [h.1, h.2, List.drop_zero, Nat.sub_zero, List.take_length]
instance pu_sl {K : PySem.W.Frag} {ta : TE} {tl th : TO} {da : DE} {dl dh : DO} [A : PuE ta da] [B : PuO tl dl] [C : PuO th dh] : PuE (tSl (rSlZ K) ta tl th) (dSl da dl dh) := ⟨fun S M σ δ H P Q w e h k =>
  A.run S M σ δ H _ _ w e h fun d S1 M1 v H1 p1 t1 w1 h1 =>
    B.run S1 M1 σ δ H1 _ _ w1 (e.step w t1) p1 fun lo S2 M2 H2 p2 t2 w2 =>
      C.run S2 M2 σ δ H2 _ _ w2 (e.step w (t1.trans t2)) p2 fun hi S3 M3 H3 p3 t3 w3 => by
        have h3 := dt_step w1 (t2.trans t3) _ h1
        have k3 := k.go ((t1.trans t2).trans t3)
        unfold rSl1 at p3
        split at p3
        · cases h3
          exact ⟨p3.1, k3 _ S3 M3 _ H3 p3.2 .refl w3 (.str _)⟩
        · rename_i xs
          cases h3 with
          | @tup a vs _ n ha hs =>
            have el := hs.length
            refine .inl ⟨a, vs, rfl, SqT.of ha, fun c => ?_, fun c p np => ?_⟩
            · rw [el] at c
              rw [cutG_whole c] at p3
              exact k3 _ S3 M3 _ H3 p3 .refl w3 (.tup n ha hs)
            · exact k3 _ S3 M3 _ _ p3 (.new np) (w3.new np) (.tup (w3.ns np) upd_same ((dtA_cut hs lo hi).sm (Same.new np)))
        · obtain ⟨xs, h4, p3⟩ := p3
          obtain ⟨a, vs, rfl, ha, hs⟩ := ls_get w3 h3 h4
          exact .inr ⟨a, vs, rfl, SqL.of ha, fun p np => k3 _ S3 M3 _ _ p3 (.new np) (w3.new np) (.lst (w3.ns np) upd_same ((dtA_cut hs lo hi).sm (Same.new np)))⟩⟩
def dRevT (a : DE) : DE := fun δ M P => a δ M fun x M1 => ∃ xs, x = .tup xs ∧ P (.tup xs.reverse) M1
def dRevL (a : DE) : DE := fun δ M P => a δ M fun x M1 => ∃ xs, isLs M1 x xs ∧ P (.lst xs.reverse) M1
instance pu_revL {K : PySem.W.Frag} {ta : TE} {da : DE} [A : PuE ta da] : PuE (tRevL K ta) (dRevL da) := ⟨fun S M σ δ H P Q w e h k =>
  A.run S M σ δ H _ _ w e h fun d S1 M1 v H1 p1 t1 w1 h1 => by
    obtain ⟨xs, h2, p1⟩ := p1
    obtain ⟨a, vs, rfl, ha, hs⟩ := ls_get w1 h1 h2
    exact ⟨a, vs, rfl, SqL.of ha, fun p np => k _ S1 M1 _ _ p1 (t1.trans (.new np)) (w1.new np) (.lst (w1.ns np) upd_same (hs.reverse.sm (Same.new np)))⟩⟩
def lkD : List Str → List D → Str → Option D
  | n :: ns, d :: ds, f => if f = n then some d else lkD ns ds f
  | _, _, _ => none
theorem lk_get {S : Addr → Prop} {H : Hp} {f : Str} {d : D} : ∀ {fs : List (Str × V)} {ns : List Str} {ds : List D}, fs.map (·.1) = ns → DtA S H (fs.map (·.2)) ds → lkD ns ds f = some d → ∃ v, fs.lookup f = some v ∧ Dt S H v d
  | [], [], [], _, _, h => by cases h
  | (n, v) :: fs, m :: ns, d' :: ds, e, .cons h1 t, h => by
    rw [List.map_cons, List.cons.injEq] at e
    obtain ⟨rfl, e⟩ := e
    unfold lkD at h
    by_cases c : f = n
    · rw [if_pos c] at h
      cases h
      refine ⟨v, ?_, h1⟩
      subst c
      simp
    · rw [if_neg c] at h
      obtain ⟨u, h2, h3⟩ := lk_get e t h
      refine ⟨u, ?_, h3⟩
      rw [List.lookup_cons]
      have : (f == n) = false := by simpa using c
      simp only [this]
      exact h2
def putD (f : Str) (d : D) : List (Str × D) → List (Str × D)
  | [] => [(f, d)]
  | (n, e) :: r => if n = f then (n, d) :: r else (n, e) :: putD f d r
/-- an instance, still or changing -/
def isIn (M : Mem) (x : D) (C : Addr) (ns : List Str) (ds : List D) : Prop := x = .ins C ns ds ∨ ∃ a fs, x = .ptr a ∧ M a = some (.ins C fs) ∧ ns = fs.map (·.1) ∧ ds = fs.map (·.2)
theorem in_get {S : Addr → Prop} {M : Mem} {H : Hp} (w : Wo S M H) {v : V} {x : D} {C : Addr} {ns : List Str} {ds : List D} (h : Dt S H v x) (e : isIn M x C ns ds) : ∃ a dx fs, v = .ref a ∧ H a = some (.ins C dx fs) ∧ fs.map (·.1) = ns ∧ DtA S H (fs.map (·.2)) ds := by
  rcases e with rfl | ⟨a, fs, rfl, e, rfl, rfl⟩
  · cases h with
    | ins n ha hn hs => exact ⟨_, _, _, rfl, ha, hn, hs⟩
  · cases h
    obtain ⟨_, dx, gs, h1, h2, h3⟩ := w.mem a _ e
    exact ⟨a, dx, gs, rfl, h1, h2, h3⟩
theorem lk_of {f : Str} {d : D} : ∀ {ns : List Str} {ds : List D} {k : Nat}, ns.Nodup → ns[k]? = some f → ds[k]? = some d → lkD ns ds f = some d
  | [], _, k, _, h, _ => by simp at h
  | n :: ns, [], k, _, _, h => by simp at h
  | n :: ns, e :: ds, 0, nd, h, h2 => by
    simp at h h2
    subst h
    subst h2
    unfold lkD
    rw [if_pos rfl]
  | n :: ns, e :: ds, k + 1, nd, h, h2 => by
    rw [List.getElem?_cons_succ] at h h2
    have hn := List.nodup_cons.mp nd
    have : f ≠ n := fun z => hn.1 (by rw [← z]; exact List.mem_of_getElem? h)
    unfold lkD
    rw [if_neg this]
    exact lk_of hn.2 h h2
def rFld1 (K : PySem.W.Frag) (f : Str) (x : D) (M : Mem) (P : QD) : Prop := ∃ C ns ds d, isIn M x C ns ds ∧ Cls K C ∧ NoAttr K C f ∧ (∃ k : Nat, ns.Nodup ∧ ns[k]? = some f ∧ ds[k]? = some d) ∧ P d M
def dFld (K : PySem.W.Frag) (a : DE) (f : Str) : DE := fun δ M P => a δ M fun x M1 => rFld1 K f x M1 P
instance pu_fld {K : PySem.W.Frag} {ta : TE} {da : DE} {f : Str} [A : PuE ta da] : PuE (tFld K ta f) (dFld K da f) := ⟨fun S M σ δ H P Q w e h k =>
  A.run S M σ δ H _ _ w e h fun d S1 M1 v H1 p1 t1 w1 h1 => by
    obtain ⟨C, ns, ds, d, h2, c, n, ⟨_, l1, l2, l3⟩, p1⟩ := p1
    obtain ⟨a, dx, fs, rfl, ha, hn, hs⟩ := in_get w1 h1 h2
    obtain ⟨v, hv, hd⟩ := lk_get hn hs (lk_of l1 l2 l3)
    exact ⟨a, C, dx, fs, v, rfl, ha, c, n, hv, k _ S1 M1 _ H1 p1 t1 w1 hd⟩⟩
def lenR (M : Mem) (d : D) (P : Int → Prop) : Prop := match d with
  | .str z => z.length ≤ sizeLine ∧ P z.length
  | x => ∃ xs, isSq M x xs ∧ P xs.length
def rLen1 : DC := fun ds M P => ∃ d, ds = [d] ∧ lenR M d fun i => P (.int i) M
instance cb_len {K : PySem.W.Frag} : CbD (rLenU K) rLen1 := ⟨fun S M H vs ds P Q w hv h k => by
  obtain ⟨d, rfl, h⟩ := h
  match hv with
  | .cons h1 .nil =>
    unfold V.lenR at h
    split at h
    · cases h1
      exact ⟨h.1, k _ S M _ H h.2 .refl w (.int _)⟩
    · obtain ⟨xs, h2, p⟩ := h
      obtain ⟨a, us, rfl, ha, hs⟩ := sq_get w h1 h2
      refine ⟨us, ?_, ?_⟩
      · rcases ha with ha | ha
        · exact .inl (SqL.of ha)
        · exact .inr (Or.inl ha)
      · rw [hs.length]
        exact k _ S M _ H p .refl w (.int _)⟩
def rAll1 : DC := fun ds M P => ∃ (x : D) (bs : List Bool), ds = [x] ∧ isLs M x (bs.map D.bl) ∧ P (.bl (bs.all id)) M
def rAny1 : DC := fun ds M P => ∃ (x : D) (bs : List Bool), ds = [x] ∧ isLs M x (bs.map D.bl) ∧ P (.bl (bs.any id)) M
instance cb_all {K : PySem.W.Frag} : CbD (rAll K) rAll1 := ⟨fun S M H vs ds P Q w hv h k => by
  obtain ⟨x, bs, rfl, h2, p⟩ := h
  match hv with
  | .cons h1 .nil =>
    obtain ⟨a, us, rfl, ha, hs⟩ := ls_get w h1 h2
    have e := hs.bls_eq
    subst e
    exact ⟨a, bs, rfl, SqL.of ha, k _ S M _ H p .refl w (.bl _)⟩⟩
instance cb_any {K : PySem.W.Frag} : CbD (rAny K) rAny1 := ⟨fun S M H vs ds P Q w hv h k => by
  obtain ⟨x, bs, rfl, h2, p⟩ := h
  match hv with
  | .cons h1 .nil =>
    obtain ⟨a, us, rfl, ha, hs⟩ := ls_get w h1 h2
    have e := hs.bls_eq
    subst e
    exact ⟨a, bs, rfl, SqL.of ha, k _ S M _ H p .refl w (.bl _)⟩⟩
def rMax1 : DC := fun ds M P => ∃ (x : D) (ns : List Int), ds = [x] ∧ isLs M x (ns.map D.int) ∧ 0 < ns.length ∧ ∀ m, m ∈ ns → (∀ y, y ∈ ns → y ≤ m) → P (.int m) M
def rMin1 : DC := fun ds M P => ∃ (x : D) (ns : List Int), ds = [x] ∧ isLs M x (ns.map D.int) ∧ 0 < ns.length ∧ ∀ m, m ∈ ns → (∀ y, y ∈ ns → m ≤ y) → P (.int m) M
instance cb_max {K : PySem.W.Frag} : CbD (rMax K) rMax1 := ⟨fun S M H vs ds P Q w hv h k => by
  obtain ⟨x, ns, rfl, h2, hl, p⟩ := h
  match hv with
  | .cons h1 .nil =>
    obtain ⟨a, us, rfl, ha, hs⟩ := ls_get w h1 h2
    have e := hs.ints_eq
    subst e
    exact ⟨a, ns, rfl, SqL.of ha, hl, fun m hm hx => k _ S M _ H (p m hm hx) .refl w (.int _)⟩⟩
instance cb_min {K : PySem.W.Frag} : CbD (rMin K) rMin1 := ⟨fun S M H vs ds P Q w hv h k => by
  obtain ⟨x, ns, rfl, h2, hl, p⟩ := h
  match hv with
  | .cons h1 .nil =>
    obtain ⟨a, us, rfl, ha, hs⟩ := ls_get w h1 h2
    have e := hs.ints_eq
    subst e
    exact ⟨a, ns, rfl, SqL.of ha, hl, fun m hm hx => k _ S M _ H (p m hm hx) .refl w (.int _)⟩⟩
def rSum1 : DC := fun ds M P => ∃ (x : D) (ns : List Int), ds = [x] ∧ isLs M x (ns.map D.int) ∧ P (.int ns.sum) M
instance cb_sum {K : PySem.W.Frag} : CbD (rSum K) rSum1 := ⟨fun S M H vs ds P Q w hv h k => by
  obtain ⟨x, ns, rfl, h2, p⟩ := h
  match hv with
  | .cons h1 .nil =>
    obtain ⟨a, us, rfl, ha, hs⟩ := ls_get w h1 h2
    have e := hs.ints_eq
    subst e
    exact ⟨a, ns, rfl, SqL.of ha, k _ S M _ H p .refl w (.int _)⟩⟩
class VD1 (f : Int → V) (g : outParam (Int → D)) : Prop where
  run : ∀ S H i, Dt S H (f i) (g i)
instance vd1_int {f : Int → Int} : VD1 (fun i => .int (f i)) (fun i => .int (f i)) := ⟨fun _ _ _ => .int _⟩
def rI11 (g : Int → D) : DC := fun ds M P => ∃ i, ds = [.int i] ∧ P (g i) M
def rI21 (g : Int → Int → D) : DC := fun ds M P => ∃ i j, ds = [.int i, .int j] ∧ P (g i j) M
instance cb_I1 {f : Int → V} {g : Int → D} [F : VD1 f g] : CbD (U.rI1 f) (rI11 g) := ⟨fun S M H vs ds P Q w hv h k => by
  obtain ⟨i, rfl, p⟩ := h
  match hv with
  | .cons h1 .nil =>
    cases h1
    exact k _ S M _ H p .refl w (F.run S H i)⟩
instance cb_I2 {f : Int → Int → V} {g : Int → Int → D} [F : VD f g] : CbD (rI2 f) (rI21 g) := ⟨fun S M H vs ds P Q w hv h k => by
  obtain ⟨i, j, rfl, p⟩ := h
  match hv with
  | .cons h1 (.cons h2 .nil) =>
    cases h1
    cases h2
    exact k _ S M _ H p .refl w (F.run S H i j)⟩
instance cb_int1 : CbD rInt1 (rI11 fun i => .int i) := ⟨fun S M H vs ds P Q w hv h k => by
  obtain ⟨i, rfl, p⟩ := h
  match hv with
  | .cons h1 .nil =>
    cases h1
    exact k _ S M _ H p .refl w (.int i)⟩
def dNeg (a : DE) : DE := fun δ M P => a δ M fun x M1 => ∃ i, x = .int i ∧ P (.int (-i)) M1
instance pu_neg {ta : TE} {da : DE} [A : PuE ta da] : PuE (tUn (rU fun i => .int (-i)) ta) (dNeg da) := ⟨fun S M σ δ H P Q w e h k =>
  A.run S M σ δ H _ _ w e h fun d S1 M1 v H1 p1 t1 w1 h1 => by
    obtain ⟨i, rfl, p1⟩ := p1
    cases h1
    exact ⟨i, rfl, k _ S1 M1 _ H1 p1 t1 w1 (.int _)⟩⟩
def listR (M : Mem) (d : D) (P : List D → Prop) : Prop := match d with
  | .str z => z.length ≤ sizeLine ∧ P ((cd z).map sgn)
  | x => ∃ xs, isSq M x xs ∧ P xs
def rList1 : DC := fun ds M P => ∃ d, ds = [d] ∧ listR M d fun xs => P (.lst xs) M
instance cb_list {K : PySem.W.Frag} : CbD (rListU K) rList1 := ⟨fun S M H vs ds P Q w hv h k => by
  obtain ⟨d, rfl, h⟩ := h
  match hv with
  | .cons h1 .nil =>
    unfold listR at h
    split at h
    · cases h1
      exact ⟨h.1, fun l nl => k _ S M _ _ h.2 (.new nl) (w.new nl) (.lst (w.ns nl) upd_same ((dt_signsV (S := S) (H := H) _).sm (Same.new nl)))⟩
    · obtain ⟨xs, h2, p⟩ := h
      obtain ⟨a, us, rfl, ha, hs⟩ := sq_get w h1 h2
      refine ⟨us, ?_, fun l nl => k _ S M _ _ p (.new nl) (w.new nl) (.lst (w.ns nl) upd_same (hs.sm (Same.new nl)))⟩
      rcases ha with ha | ha
      · exact .inl (SqL.of ha)
      · exact .inr (Or.inl ha)⟩
/-- str(n) -/
def rStr1 : List V → Hp → VK → Prop := fun xs H Q => ∃ i, xs = [.int i] ∧ i.natAbs.log2 < 1920 ∧ Q (.str (toString i)) H
def rStrD : DC := fun ds M P => ∃ i, ds = [.int i] ∧ i.natAbs.log2 < 1920 ∧ P (.str (Str.ofString (toString i))) M
instance cb_str : CbD rStr1 rStrD := ⟨fun S M H vs ds P Q w hv h k => by
  obtain ⟨i, rfl, hl, p⟩ := h
  match hv with
  | .cons h1 .nil =>
    cases h1
    exact ⟨i, rfl, hl, k _ S M _ H p .refl w (.str _)⟩⟩
/-- tuple(x) -/
def kTup1 (x : D) (M : Mem) (P : QD) : Prop := ∃ xs, (x = .lst xs ∨ x = .tup xs ∨ ∃ a, x = .ptr a ∧ M a = some (.lst xs)) ∧ P (.tup xs) M
instance pu_tupOf {K : PySem.W.Frag} {ta : TE} {da : DE} [A : PuE ta da] : PuE (tThen ta (kTup K)) (dThen da kTup1) := ⟨fun S M σ δ H P Q w e h k =>
  A.run S M σ δ H _ _ w e h fun d S1 M1 v H1 p1 t1 w1 h1 => by
    obtain ⟨xs, h2, p1⟩ := p1
    rcases h2 with rfl | rfl | ⟨a, rfl, h2⟩
    · cases h1 with
      | lst n ha hs => exact .inl ⟨_, _, rfl, SqL.of ha, fun p np => k _ S1 M1 _ _ p1 (t1.trans (.new np)) (w1.new np) (.tup (w1.ns np) upd_same (hs.sm (Same.new np)))⟩
    · cases h1 with
      | tup n ha hs => exact .inr ⟨_, _, rfl, SqT.of ha, k _ S1 M1 _ _ p1 t1 w1 (.tup n ha hs)⟩
    · cases h1
      obtain ⟨_, vs, ha, hs⟩ := w1.mem a _ h2
      exact .inl ⟨_, _, rfl, SqL.of ha, fun p np => k _ S1 M1 _ _ p1 (t1.trans (.new np)) (w1.new np) (.tup (w1.ns np) upd_same (hs.sm (Same.new np)))⟩⟩
/-- list(range(n)) -/
abbrev TR := L2.St → Hp → (Int → Int → Hp → Prop) → Prop
abbrev DRg := Dl → Mem → (Int → Int → Mem → Prop) → Prop
class PuRg (t : TR) (dt : outParam DRg) : Prop where
  run : ∀ S M σ δ H (P : Int → Int → Mem → Prop) (Q : Int → Int → Hp → Prop), Wo S M H → En S H σ δ → dt δ M P → (∀ i j S' M' H', P i j M' → Step S M H S' M' H' → Wo S' M' H' → Q i j H') → t σ H Q
def dRg1 (a : DE) : DRg := fun δ M P => a δ M fun x M1 => ∃ n, x = .int n ∧ P 0 n M1
def dRg2 (a b : DE) : DRg := fun δ M P => a δ M fun x M1 => b δ M1 fun y M2 => ∃ i j, x = .int i ∧ y = .int j ∧ P i j M2
instance pu_rg1 {ta : TE} {da : DE} [A : PuE ta da] : PuRg (tRg1 ta) (dRg1 da) := ⟨fun S M σ δ H P Q w e h k =>
  A.run S M σ δ H _ _ w e h fun d S1 M1 v H1 p1 t1 w1 h1 => by
    obtain ⟨i, rfl, p1⟩ := p1
    cases h1
    exact ⟨i, rfl, k _ _ S1 M1 H1 p1 t1 w1⟩⟩
instance pu_rg2 {ta tb : TE} {da db : DE} [A : PuE ta da] [B : PuE tb db] : PuRg (tRg2 ta tb) (dRg2 da db) := ⟨fun S M σ δ H P Q w e h k =>
  A.run S M σ δ H _ _ w e h fun d S1 M1 v H1 p1 t1 w1 h1 =>
    B.run S1 M1 σ δ H1 _ _ w1 (e.step w t1) p1 fun d2 S2 M2 v2 H2 p2 t2 w2 h2 => by
      obtain ⟨i, j, rfl, rfl, p2⟩ := p2
      cases h1
      cases h2
      exact ⟨i, j, rfl, rfl, k _ _ S2 M2 H2 p2 (t1.trans t2) w2⟩⟩
def rgD (i j : Int) : List D := (List.range (j - i).toNat).map fun k => D.int (i + (k : Nat))
theorem dt_rgD {S : Addr → Prop} {H : Hp} (i j : Int) : DtA S H (rgV i j) (rgD i j) := by
  unfold rgV rgD
  generalize (j - i).toNat = n
  have : ∀ l : List Nat, DtA S H (l.map fun k => V.int (i + (k : Nat))) (l.map fun k => D.int (i + (k : Nat))) := fun l => by
    induction l with
    | nil => exact .nil
    | cons a l ih => exact .cons (.int _) ih
  exact this _
def dLstRg (t : DRg) : DE := fun δ M P => t δ M fun a b M1 => RgOk a b ∧ P (.lst (rgD a b)) M1
instance pu_lstRg {t : TR} {dt : DRg} [A : PuRg t dt] : PuE (tLstRg t) (dLstRg dt) := ⟨fun S M σ δ H P Q w e h k =>
  A.run S M σ δ H _ _ w e h fun i j S1 M1 H1 p1 t1 w1 => ⟨p1.1, fun p np => k _ S1 M1 _ _ p1.2 (t1.trans (.new np)) (w1.new np) (.lst (w1.ns np) upd_same ((dt_rgD i j).sm (Same.new np)))⟩⟩
/-- isinstance(x, C): what is known of x's class -/
inductive TyD (K : PySem.W.Frag) (M : Mem) : D → Value → Prop where
  | non : TyD K M .non (.type "NoneType")
  | bl (b : Bool) : TyD K M (.bl b) (.type "bool")
  | int (i : Int) : TyD K M (.int i) (.type "int")
  | str (x : Str) : TyD K M (.str x) (.type "str")
  | lst (xs : List D) : TyD K M (.lst xs) (.type "list")
  | tup (xs : List D) : TyD K M (.tup xs) (.type "tuple")
  | ftp (xs : List D) : TyD K M (.ftp xs) (.type "tuple")
  | emp (a : Addr) : TyD K M (.opq a (.dK [])) (.type "dict")
  | mlst {a : Addr} {xs : List D} (h : M a = some (.lst xs)) : TyD K M (.ptr a) (.type "list")
  | mdic {a : Addr} {xs : List (Key × D)} (h : M a = some (.dic xs)) : TyD K M (.ptr a) (.type "dict")
  | ins {C : Addr} {x : D} {ns : List Str} {xs : List D} (h : isIn M x C ns xs) (c : C8.InsC K C) : TyD K M x (.ref C)
def rIsi1 (K : PySem.W.Frag) : DC := fun ds M P => match ds with
  | [x, .ty n] => ∃ t b, TyD K M x t ∧ PySem.W.kitOne K t (.type n) = some b ∧ P (.bl b) M
  | [x, .ptr C] => ∃ t b, TyD K M x t ∧ PySem.W.kitOne K t (.ref C) = some b ∧ P (.bl b) M
  | _ => False
theorem tyD_go {S : Addr → Prop} {M : Mem} {H : Hp} {K : PySem.W.Frag} (w : Wo S M H) {v : V} {x : D} {t : Value} (h : Dt S H v x) (ty : TyD K M x t) : TyX K H v t := by
  cases ty with
  | non => cases h; exact .base .non
  | bl b => cases h; exact .base (.bl _)
  | int b => cases h; exact .base (.int _)
  | str b => cases h; exact .base (.str _)
  | lst xs => cases h with
    | lst n ha hs => exact .base (.lst ha)
  | tup xs => cases h with
    | tup n ha hs => exact .base (.tup ha)
  | ftp xs => cases h with
    | ftp n ha hd hs => exact .fTuple ha
  | emp a => cases h with
    | opq n ha => exact .base (.dK ha)
  | mlst hm =>
    cases h
    obtain ⟨_, vs, ha, _⟩ := w.mem _ _ hm
    exact .base (.lst ha)
  | mdic hm =>
    cases h
    obtain ⟨_, vs, ha, _⟩ := w.mem _ _ hm
    exact .base (.dK ha)
  | ins hi c =>
    obtain ⟨a, dx, fs, rfl, ha, _, _⟩ := in_get w h hi
    exact .base (.ins ha c.cl c.ha c.hn c.htk c.hm)
instance cb_isi {K : PySem.W.Frag} : CbD (rIsi K) (rIsi1 K) := ⟨fun S M H vs ds P Q w hv h k => by
  unfold rIsi1 at h
  split at h
  · obtain ⟨t, b, ty, e, p⟩ := h
    match hv with
    | .cons h1 (.cons h2 .nil) =>
      cases h2
      exact ⟨_, _, t, _, b, rfl, .ty _, tyD_go w h1 ty, e, k _ S M _ H p .refl w (.bl _)⟩
  · obtain ⟨t, b, ty, e, p⟩ := h
    match hv with
    | .cons h1 (.cons h2 .nil) =>
      cases h2
      exact ⟨_, _, t, _, b, rfl, .own _, tyD_go w h1 ty, e, k _ S M _ H p .refl w (.bl _)⟩
  · exact h.elim⟩
/-- repr -/
def rRepr1 : DC := fun ds M P => ∃ d p, ds = [d] ∧ D.py (vw M d) = some p ∧ PyData.showable p = true ∧ PyData.hasDict p = false ∧ PyData.depth p ≤ 40 ∧ (PyData.shown p).length ≤ sizeLine ∧ P (.str (PyData.shown p)) M
instance cb_repr {K : PySem.W.Frag} : CbD (rRepr K) rRepr1 := ⟨fun S M H vs ds P Q w hv h k => by
  obtain ⟨d, p, rfl, e, h1, h2, h3, h4, q⟩ := h
  match hv with
  | .cons h0 .nil => exact ⟨_, p, rfl, dt_vw w h0 e, h1, h2, h3, h4, k _ S M _ H q .refl w (.str _)⟩⟩
/-- sep.join(xs) -/
def rJoin1 (x y : D) (M : Mem) (P : QD) : Prop := ∃ a, ∃ ys : List Str, x = .str a ∧ isSq M y (ys.map D.str) ∧ (ys.map (·.length)).sum + ys.length * a.length ≤ 16777216 ∧ P (.str (Txt.join a ys)) M
def dJoin1 (a b : DE) : DE := fun δ M P => a δ M fun x M1 => (∃ z, x = .str z) ∧ b δ M1 fun y M2 => rJoin1 x y M2 P
instance pu_join {K : PySem.W.Frag} {ta tb : TE} {da db : DE} [A : PuE ta da] [B : PuE tb db] : PuE (tM1 (rJoin K) ta tb) (dJoin1 da db) := ⟨fun S M σ δ H P Q w e h k =>
  A.run S M σ δ H _ _ w e h fun d S1 M1 v H1 p1 t1 w1 h1 => by
    obtain ⟨⟨z, rfl⟩, p1⟩ := p1
    cases h1
    refine ⟨⟨z, rfl⟩, B.run S1 M1 σ δ H1 _ _ w1 (e.step w t1) p1 fun d2 S2 M2 v2 H2 p2 t2 w2 h2 => ?_⟩
    obtain ⟨a, ys, ea, hy, hl, p2⟩ := p2
    cases ea
    obtain ⟨p, vs, rfl, ha, hs⟩ := sq_get w2 h2 hy
    have es := hs.strs_eq
    subst es
    refine ⟨z, p, ys, rfl, rfl, ?_, hl, k _ S2 M2 _ H2 p2 (t1.trans t2) w2 (.str _)⟩
    rcases ha with ha | ha
    · exact .inl (SqL.of ha)
    · exact .inr (Or.inl ha)⟩
def dAppend (a : DE) (b : DA) : DE := fun δ M P => a δ M fun x M1 => ∃ l, x = .ptr l ∧ (∃ xs, M1 l = some (.lst xs)) ∧ b δ M1 fun ys M2 => ∃ xs y, ys = [y] ∧ M2 l = some (.lst xs) ∧ xs.length < sizeLine ∧ P .non (mset M2 l (.lst (xs ++ [y])))
instance pu_append {K : PySem.W.Frag} {ta : TE} {tb : TA} {da : DE} {db : DA} [A : PuE ta da] [B : PuA tb db] : PuE (tBM K "list" rAppend ta tb) (dAppend da db) := ⟨fun S M σ δ H P Q w e h k =>
  A.run S M σ δ H _ _ w e h fun d S1 M1 v H1 p1 t1 w1 h1 => by
    obtain ⟨l, rfl, ⟨xs, hx⟩, p1⟩ := p1
    cases h1
    obtain ⟨_, vs, ha, hs⟩ := w1.mem l _ hx
    refine ⟨.inl ⟨rfl, _, SqL.of ha⟩, B.run S1 M1 σ δ H1 _ _ w1 (e.step w t1) p1 fun d2 S2 M2 v2 H2 p2 t2 w2 h2 => ?_⟩
    obtain ⟨xs, y, rfl, hm, hz, p2⟩ := p2
    obtain ⟨sl, vs, ha, hs⟩ := w2.mem l _ hm
    match v2, h2 with
    | [u], .cons h2 .nil =>
      have ex : Ext S2 H2 (upd H2 l (.lst (vs ++ [u]))) := Ext.mut (Ext.refl _) sl
      exact ⟨l, vs, _, rfl, rfl, ha, by rw [hs.length]; exact hz, k _ _ _ _ _ p2 ((t1.trans t2).trans (.change hm)) (w2.change hm ⟨_, upd_same, (hs.snoc h2).go ex⟩) .non⟩⟩
def dFmt (a : DE) : DE := fun δ M P => a δ M fun x M1 => match x with
  | .str y => y.length ≤ sizeLine ∧ P (.str y) M1
  | .int i => i.natAbs.log2 < 1920 ∧ P (.str (Str.ofString (toString i))) M1
  | _ => False
instance pu_fmt {ta : TE} {da : DE} [A : PuE ta da] : PuE (tFmt ta) (dFmt da) := ⟨fun S M σ δ H P Q w e h k =>
  A.run S M σ δ H _ _ w e h fun d S1 M1 v H1 p1 t1 w1 h1 => by
    split at p1
    · cases h1
      exact .inl ⟨_, rfl, p1.1, k _ S1 M1 _ H1 p1.2 t1 w1 (.str _)⟩
    · cases h1
      exact .inr ⟨_, rfl, p1.1, k _ S1 M1 _ H1 p1.2 t1 w1 (.str _)⟩
    · exact p1.elim⟩
def tJoin (ts : List TE) : TE := fun σ H Q => tJs ts Str.empty σ H fun out H1 => Q (.str out) H1
theorem pe_joinedD {X : Cx} {v1 v2 : Expr} {rest : List Expr} {ts : List TE} {pos : Pos} (h : PJ X (v1 :: v2 :: rest) ts) : PE X (.JoinedStr (v1 :: v2 :: rest) pos) (tJoin ts) := pe_joined h
def dJs : List DE → Str → Dl → Mem → (Str → Mem → Prop) → Prop
  | [], acc, _, M, P => P acc M
  | d :: ds, acc, δ, M, P => d δ M fun x M1 => ∃ y : Str, x = .str y ∧ (acc ++ y).length ≤ sizeLine ∧ dJs ds (acc ++ y) δ M1 P
class PuJ (ts : List TE) (ds : outParam (List DE)) : Prop where
  run : ∀ S M σ δ H acc (P : Str → Mem → Prop) (Q : Str → Hp → Prop), Wo S M H → En S H σ δ → dJs ds acc δ M P → (∀ o S' M' H', P o M' → Step S M H S' M' H' → Wo S' M' H' → Q o H') → tJs ts acc σ H Q
instance pu_j0 : PuJ [] [] := ⟨fun S M σ δ H acc P Q w e h k => k _ S M H h .refl w⟩
instance pu_j1 {t : TE} {ts : List TE} {d : DE} {ds : List DE} [A : PuE t d] [B : PuJ ts ds] : PuJ (t :: ts) (d :: ds) := ⟨fun S M σ δ H acc P Q w e h k =>
  A.run S M σ δ H _ _ w e h fun d S1 M1 v H1 p1 t1 w1 h1 => by
    obtain ⟨y, rfl, hz, p1⟩ := p1
    cases h1
    exact ⟨y, rfl, hz, B.run S1 M1 σ δ H1 _ P Q w1 (e.step w t1) p1 fun o S2 M2 H2 p2 t2 w2 => k o S2 M2 H2 p2 (t1.trans t2) w2⟩⟩
def dJoin (ds : List DE) : DE := fun δ M P => dJs ds Str.empty δ M fun out M1 => P (.str out) M1
instance pu_joined {ts : List TE} {ds : List DE} [A : PuJ ts ds] : PuE (tJoin ts) (dJoin ds) := ⟨fun S M σ δ H P Q w e h k =>
  A.run S M σ δ H _ _ _ w e h fun o S1 M1 H1 p1 t1 w1 => k _ S1 M1 _ H1 p1 t1 w1 (.str o)⟩
end V
namespace V
open PySem PySem.Spec PyProof.Rows L2 U StX
abbrev QS := Dl → Mem → Prop
abbrev DG := D → Dl → Mem → QS → Prop
abbrev DGs := List D → Dl → Mem → QS → Prop
/-- only these slots are stored -/
def Onl (sl : List Nat) (σ σ' : L2.St) : Prop := ∀ vs : List Nat, (∀ i ∈ sl, i ∈ vs) → L2.wipe σ' vs = L2.wipe σ vs
class PuG (g : TG) (dg : outParam DG) (sl : outParam (List Nat)) : Prop where
  run : ∀ S M σ δ H v d (P : QS) (R : L2.St → Hp → Prop), Wo S M H → En S H σ δ → Dt S H v d → dg d δ M P → (∀ δ' S' M' σ' H', P δ' M' → Step S M H S' M' H' → Wo S' M' H' → En S' H' σ' δ' → Onl sl σ σ' → R σ' H') → g v σ H R
class PuGs (g : TGs) (dg : outParam DGs) (sl : outParam (List Nat)) : Prop where
  run : ∀ S M σ δ H v d (P : QS) (R : L2.St → Hp → Prop), Wo S M H → En S H σ δ → DtA S H v d → dg d δ M P → (∀ δ' S' M' σ' H', P δ' M' → Step S M H S' M' H' → Wo S' M' H' → En S' H' σ' δ' → Onl sl σ σ' → R σ' H') → g v σ H R
theorem wipe_set (σ : L2.St) (i : Nat) (o : Option V) : ∀ vs : List Nat, i ∈ vs → L2.wipe (σ.set i o) vs = L2.wipe σ vs
  | v :: vs, h => by
    unfold L2.wipe
    by_cases c : i ∈ vs
    · rw [wipe_set σ i o vs c]
    · have e : i = v := (List.mem_cons.mp h).elim id fun z => (c z).elim
      subst e
      have : ∀ vs : List Nat, i ∉ vs → L2.wipe (σ.set i o) vs = (L2.wipe σ vs).set i o := by
        intro vs
        induction vs with
        | nil => intro _; rfl
        | cons w ws ih =>
          intro n
          rw [List.mem_cons, not_or] at n
          unfold L2.wipe
          rw [ih n.2, List.set_comm _ _ n.1]
      rw [this vs c, List.set_set]
def dgN (i : Nat) : DG := fun d δ M P => P (δ.set i (some d)) M
instance pu_gName {i : Nat} : PuG (gName i) (dgN i) [i] := ⟨fun S M σ δ H v d P R w e h p k => k _ S M _ H p .refl w (e.set h) fun vs hv => wipe_set _ _ _ _ (hv i (List.mem_singleton.mpr rfl))⟩
def dgsNil : DGs := fun ds δ M P => ds = [] ∧ P δ M
def dgsCons (g : DG) (r : DGs) : DGs := fun ds δ M P => ∃ d es, ds = d :: es ∧ g d δ M fun δ1 M1 => r es δ1 M1 P
instance pu_gNil : PuGs gNil dgsNil [] := ⟨fun S M σ δ H v d P R w e h p k => by
  obtain ⟨rfl, p⟩ := p
  cases h
  exact ⟨rfl, k _ S M _ H p .refl w e fun _ _ => rfl⟩⟩
instance pu_gCons {g : TG} {gs : TGs} {dg : DG} {dgs : DGs} {s1 s2 : List Nat} [A : PuG g dg s1] [B : PuGs gs dgs s2] : PuGs (gCons g gs) (dgsCons dg dgs) (s1 ++ s2) := ⟨fun S M σ δ H v d P R w e h p k => by
  obtain ⟨x, xs, rfl, p⟩ := p
  cases h with
  | cons h1 h2 =>
    refine ⟨_, _, rfl, A.run S M σ δ H _ x _ _ w e h1 p fun δ1 S1 M1 σ1 H1 p1 t1 w1 e1 o1 => ?_⟩
    refine B.run S1 M1 σ1 δ1 H1 _ xs P _ w1 e1 (dtA_step w t1 _ h2) p1 fun δ2 S2 M2 σ2 H2 p2 t2 w2 e2 o2 => k δ2 S2 M2 σ2 H2 p2 (t1.trans t2) w2 e2 fun vs hv => ?_
    rw [o2 vs fun i hi => hv i (List.mem_append_right _ hi), o1 vs fun i hi => hv i (List.mem_append_left _ hi)]⟩
def dgT (n : Nat) (g : DGs) : DG := fun d δ M P => ∃ xs, d = .tup xs ∧ xs.length = n ∧ g xs δ M P
instance pu_gTup {K : PySem.W.Frag} {n : Nat} {gs : TGs} {dgs : DGs} {s : List Nat} [A : PuGs gs dgs s] : PuG (gTup K n gs) (dgT n dgs) s := ⟨fun S M σ δ H v d P R w e h p k => by
  obtain ⟨xs, rfl, hl, p⟩ := p
  cases h with
  | tup n ha hs => exact ⟨_, _, rfl, SqT.of ha, by rw [hs.length]; exact hl, A.run S M σ δ H _ xs P R w e hs p k⟩⟩
abbrev DS := QS → QD → QS → QS → QS
structure Lk (S : Addr → Prop) (M : Mem) (H : Hp) (nx : QS) (rt : QD) (bk ct : QS) (E : Ends) : Prop where
  nx : ∀ δ' S' M' σ' H', nx δ' M' → Step S M H S' M' H' → Wo S' M' H' → En S' H' σ' δ' → E.nx σ' H'
  rt : AtE S M H rt E.rt
  bk : ∀ δ' S' M' σ' H', bk δ' M' → Step S M H S' M' H' → Wo S' M' H' → En S' H' σ' δ' → E.bk σ' H'
  ct : ∀ δ' S' M' σ' H', ct δ' M' → Step S M H S' M' H' → Wo S' M' H' → En S' H' σ' δ' → E.ct σ' H'
theorem Lk.go {S S' : Addr → Prop} {M M' : Mem} {H H' : Hp} {nx : QS} {rt : QD} {bk ct : QS} {E : Ends} (l : Lk S M H nx rt bk ct E) (t : Step S M H S' M' H') : Lk S' M' H' nx rt bk ct E :=
  ⟨fun a b c d e p t2 w f => l.nx a b c d e p (t.trans t2) w f, l.rt.go t, fun a b c d e p t2 w f => l.bk a b c d e p (t.trans t2) w f, fun a b c d e p t2 w f => l.ct a b c d e p (t.trans t2) w f⟩
class PuS (t : TS) (dt : outParam DS) : Prop where
  run : ∀ S M σ δ H nx rt bk ct (E : Ends), Wo S M H → En S H σ δ → dt nx rt bk ct δ M → Lk S M H nx rt bk ct E → t E σ H
def sNext : DS := fun nx _ _ _ δ M => nx δ M
def sSeq (a b : DS) : DS := fun nx rt bk ct δ M => a (fun δ1 M1 => b nx rt bk ct δ1 M1) rt bk ct δ M
def sBreak : DS := fun _ _ bk _ δ M => bk δ M
def sCont : DS := fun _ _ _ ct δ M => ct δ M
def sDrop (a : DE) : DS := fun nx _ _ _ δ M => a δ M fun _ M1 => nx δ M1
def sRet (a : DE) : DS := fun _ rt _ _ δ M => a δ M rt
def sRetN : DS := fun _ rt _ _ _ M => rt .non M
def sIf (c : DT) (a b : DS) : DS := fun nx rt bk ct δ M => c δ M fun k M1 => if k = true then a nx rt bk ct δ M1 else b nx rt bk ct δ M1
def sNever : DS := fun _ _ _ _ _ _ => False
def sAsg (a : DE) (g : DG) : DS := fun nx _ _ _ δ M => a δ M fun x M1 => g x δ M1 nx
def sPar (i j : Nat) (t : DA) : DS := fun nx _ _ _ δ M => t δ M fun xs M1 => ∃ x y, xs = [x, y] ∧ nx ((δ.set i (some x)).set j (some y)) M1
section
variable {t u : TS} {dt du : DS} {ta : TE} {da : DE} {c : TT} {dc : DT} {g : TG} {dg : DG}
instance pu_next : PuS tNext sNext := ⟨fun S M σ δ H nx rt bk ct E w e h l => l.nx _ S M _ H h .refl w e⟩
instance pu_seq [A : PuS t dt] [B : PuS u du] : PuS (tSeq t u) (sSeq dt du) := ⟨fun S M σ δ H nx rt bk ct E w e h l =>
  A.run S M σ δ H _ _ _ _ _ w e h ⟨fun δ1 S1 M1 σ1 H1 p1 t1 w1 e1 => B.run S1 M1 σ1 δ1 H1 nx rt bk ct E w1 e1 p1 (l.go t1), l.rt, l.bk, l.ct⟩⟩
instance pu_break : PuS tBreak sBreak := ⟨fun S M σ δ H nx rt bk ct E w e h l => l.bk _ S M _ H h .refl w e⟩
instance pu_cont : PuS tCont sCont := ⟨fun S M σ δ H nx rt bk ct E w e h l => l.ct _ S M _ H h .refl w e⟩
instance pu_drop [A : PuE ta da] : PuS (tDrop ta) (sDrop da) := ⟨fun S M σ δ H nx rt bk ct E w e h l =>
  A.run S M σ δ H _ _ w e h fun d S1 M1 v H1 p1 t1 w1 h1 => l.nx _ S1 M1 _ H1 p1 t1 w1 (e.step w t1)⟩
instance pu_ret [A : PuE ta da] : PuS (tRet ta) (sRet da) := ⟨fun S M σ δ H nx rt bk ct E w e h l => A.run S M σ δ H _ _ w e h l.rt⟩
instance pu_retN : PuS tRetN sRetN := ⟨fun S M σ δ H nx rt bk ct E w e h l => l.rt _ S M _ H h .refl w .non⟩
instance pu_ifS [C : PuT c dc] [A : PuS t dt] [B : PuS u du] : PuS (tIfS c t u) (sIf dc dt du) := ⟨fun S M σ δ H nx rt bk ct E w e h l =>
  C.run S M σ δ H _ _ w e h fun b S1 M1 H1 p1 t1 w1 => by
    cases b with
    | true =>
      rw [if_pos rfl] at p1 ⊢
      exact A.run S1 M1 σ δ H1 nx rt bk ct E w1 (e.step w t1) p1 (l.go t1)
    | false =>
      rw [if_neg Bool.false_ne_true] at p1 ⊢
      exact B.run S1 M1 σ δ H1 nx rt bk ct E w1 (e.step w t1) p1 (l.go t1)⟩
instance pu_never : PuS tNever sNever := ⟨fun S M σ δ H nx rt bk ct E w e h l => h.elim⟩
instance pu_asg {sl : List Nat} [A : PuE ta da] [B : PuG g dg sl] : PuS (tAsg ta g) (sAsg da dg) := ⟨fun S M σ δ H nx rt bk ct E w e h l =>
  A.run S M σ δ H _ _ w e h fun d S1 M1 v H1 p1 t1 w1 h1 =>
    B.run S1 M1 σ δ H1 v d _ _ w1 (e.step w t1) h1 p1 fun δ2 S2 M2 σ2 H2 p2 t2 w2 e2 _ => l.nx δ2 S2 M2 σ2 H2 p2 (t1.trans t2) w2 e2⟩
instance pu_par {i j : Nat} {tt : TA} {dd : DA} [A : PuA tt dd] : PuS (tPar i j tt) (sPar i j dd) := ⟨fun S M σ δ H nx rt bk ct E w e h l =>
  A.run S M σ δ H _ _ w e h fun d S1 M1 v H1 p1 t1 w1 h1 => by
    obtain ⟨x, y, rfl, p1⟩ := p1
    match v, h1 with
    | [u, v], .cons h2 (.cons h3 .nil) => exact ⟨u, v, rfl, l.nx _ S1 M1 _ H1 p1 t1 w1 (((e.step w t1).set h2).set h3)⟩⟩
end
/-- x op= e of numbers -/
class IpD (r : TIp) (rd : outParam DR) : Prop where
  run : ∀ S M H x y dx dy P Q, Wo S M H → Dt S H x dx → Dt S H y dy → rd dx dy M P → AtE S M H P Q → r x y H Q
instance ip_I {f : Int → Int → Int} : IpD (ipI f) (V.rI1 fun i j => .int (f i j)) := ⟨fun S M H x y dx dy P Q w hx hy h k => by
  obtain ⟨i, j, rfl, rfl, p⟩ := h
  cases hx; cases hy
  exact ⟨i, j, rfl, rfl, k _ S M _ H p .refl w (.int _)⟩⟩
def sAug (i : Nat) (a : DE) (r : DR) : DS := fun nx _ _ _ δ M => ∃ x, δ[i]? = some (some x) ∧ a δ M fun y M1 => r x y M1 fun z M2 => nx (δ.set i (some z)) M2
instance pu_aug {i : Nat} {ta : TE} {da : DE} {r : TIp} {rd : DR} [A : PuE ta da] [B : IpD r rd] : PuS (tAug i ta r) (sAug i da rd) := ⟨fun S M σ δ H nx rt bk ct E w e h l => by
  obtain ⟨x, hx, p⟩ := h
  obtain ⟨v, hv, hd⟩ := e.at_ i x hx
  refine ⟨v, hv, A.run S M σ δ H _ _ w e p fun d S1 M1 u H1 p1 t1 w1 h1 => ?_⟩
  exact B.run S1 M1 H1 _ _ _ _ _ _ w1 (dt_step w t1 _ hd) h1 p1 fun z S2 M2 y H2 p2 t2 w2 h2 => l.nx _ S2 M2 _ H2 p2 (t1.trans t2) w2 ((e.step w (t1.trans t2)).set h2)⟩
/-- a field of a changing instance -/
def rPut1 (K : PySem.W.Frag) (f : Str) (x y : D) (M : Mem) (P : Mem → Prop) : Prop := ∃ p C fs, x = .ptr p ∧ M p = some (.ins C fs) ∧ Cls K C ∧ NoAttr K C f ∧ fs.length < 1000 ∧ P (mset M p (.ins C (putD f y fs)))
def sFldD (K : PySem.W.Frag) (a v : DE) (f : Str) : DS := fun nx _ _ _ δ M => v δ M fun y M1 => a δ M1 fun x M2 => rPut1 K f x y M2 (nx δ)
theorem put_held {S : Addr → Prop} {H : Hp} {f : Str} {v : V} {d : D} (hd : Dt S H v d) : ∀ {gs : List (Str × V)} {fs : List (Str × D)}, gs.map (·.1) = fs.map (·.1) → DtA S H (gs.map (·.2)) (fs.map (·.2)) → (putF f v gs).map (·.1) = (putD f d fs).map (·.1) ∧ DtA S H ((putF f v gs).map (·.2)) ((putD f d fs).map (·.2))
  | [], [], _, _ => ⟨rfl, .cons hd .nil⟩
  | (n, u) :: gs, (m, e) :: fs, h, .cons h1 t => by
    rw [List.map_cons, List.map_cons, List.cons.injEq] at h
    obtain ⟨h0, h⟩ := h
    have h0 : n = m := h0
    subst h0
    unfold putF putD
    by_cases c : n = f
    · simp only [c, if_true, beq_self_eq_true, List.map_cons]
      exact ⟨by rw [h], .cons hd t⟩
    · have c' : (n == f) = false := by simpa using c
      simp only [c, c', if_false, Bool.false_eq_true, List.map_cons]
      obtain ⟨a, b⟩ := put_held hd h t
      exact ⟨by rw [a], .cons h1 b⟩
theorem map_len {α β γ : Type} {f : α → γ} {g : β → γ} {l : List α} {m : List β} (h : l.map f = m.map g) : l.length = m.length := by
  have := congrArg List.length h
  rwa [List.length_map, List.length_map] at this
instance pu_sfld {K : PySem.W.Frag} {ta tv : TE} {da dv : DE} {f : Str} [A : PuE ta da] [B : PuE tv dv] : PuS (sFld K ta tv f) (sFldD K da dv f) := ⟨fun S M σ δ H nx rt bk ct E w e h l =>
  B.run S M σ δ H _ _ w e h fun d S1 M1 v H1 p1 t1 w1 h1 =>
    A.run S1 M1 σ δ H1 _ _ w1 (e.step w t1) p1 fun d2 S2 M2 v2 H2 p2 t2 w2 h2 => by
      obtain ⟨p, C, fs, rfl, hm, c, n, hl, p2⟩ := p2
      cases h2
      obtain ⟨sp, dx, gs, ha, hn, hs⟩ := w2.mem p _ hm
      have hv := dt_step w1 t2 _ h1
      have ex : Ext S2 H2 (upd H2 p (.ins C dx (putF f v gs))) := Ext.mut (Ext.refl _) sp
      obtain ⟨q1, q2⟩ := put_held (f := f) hv hn hs
      have t3 : Step S2 M2 H2 S2 (mset M2 p (.ins C (putD f d fs))) (upd H2 p (.ins C dx (putF f v gs))) := .change hm
      exact ⟨p, C, dx, gs, rfl, ha, c, n, by rw [map_len hn]; exact hl, l.nx _ _ _ _ _ p2 ((t1.trans t2).trans t3) (w2.change hm ⟨dx, _, upd_same, q1, q2.go ex⟩) (e.step w ((t1.trans t2).trans t3))⟩⟩
/-- while: by an invariant that falls -/
def sWhile (c : DT) (b : DS) : DS := fun nx rt _ _ δ M => ∃ W : Nat → QS, (∃ m, W m δ M) ∧ ∀ m δ M, W m δ M →
  c δ M fun k M1 => if k = true then b (fun δ' M' => ∃ m', m' < m ∧ W m' δ' M') rt nx (fun δ' M' => ∃ m', m' < m ∧ W m' δ' M') δ M1 else nx δ M1
instance pu_while {c : TT} {t : TS} {dc : DT} {dt : DS} [C : PuT c dc] [B : PuS t dt] : PuS (tWhile c t) (sWhile dc dt) := ⟨fun S M σ δ H nx rt bk ct E w e h l => by
  obtain ⟨W, ⟨m0, h0⟩, turn⟩ := h
  refine ⟨fun m σ' H' => ∃ S' M' δ', W m δ' M' ∧ Step S M H S' M' H' ∧ Wo S' M' H' ∧ En S' H' σ' δ', ⟨m0, S, M, δ, h0, .refl, w, e⟩, ?_⟩
  rintro m σ1 H1 ⟨S1, M1, δ1, hW, t1, w1, e1⟩
  refine C.run S1 M1 σ1 δ1 H1 _ _ w1 e1 (turn m δ1 M1 hW) fun b S2 M2 H2 p2 t2 w2 => ?_
  cases b with
  | true =>
    rw [if_pos rfl] at p2 ⊢
    refine ⟨fun σ' H' => ∃ m', m' < m ∧ ∃ S' M' δ', W m' δ' M' ∧ Step S M H S' M' H' ∧ Wo S' M' H' ∧ En S' H' σ' δ', fun σ' H' q => q, ?_⟩
    have t12 := t1.trans t2
    refine B.run S2 M2 σ1 δ1 H2 _ _ _ _ _ w2 (e1.step w1 t2) p2 ⟨?_, l.rt.go t12, fun a b c d e p t3 w f => l.nx a b c d e p (t12.trans t3) w f, ?_⟩
    · rintro δ3 S3 M3 σ3 H3 ⟨m', hm, q⟩ t3 w3 e3
      exact ⟨m', hm, S3, M3, δ3, q, t12.trans t3, w3, e3⟩
    · rintro δ3 S3 M3 σ3 H3 ⟨m', hm, q⟩ t3 w3 e3
      exact ⟨m', hm, S3, M3, δ3, q, t12.trans t3, w3, e3⟩
  | false =>
    rw [if_neg Bool.false_ne_true] at p2 ⊢
    exact l.nx _ S2 M2 _ H2 p2 (t1.trans t2) w2 (e1.step w1 t2)⟩
/-- J walks these data, while G stands -/
structure Walks (J : It) (G : Mem → Prop) (S : Addr → Prop) (M : Mem) (H : Hp) (xs : List D) : Prop where
  stop : ∀ S' M' H', Step S M H S' M' H' → Wo S' M' H' → G M' → J.stop xs.length H'
  go : ∀ i S' M' H', i < xs.length → Step S M H S' M' H' → Wo S' M' H' → G M' → J.go i H'
  yld : ∀ i S' M' H' x H2, i < xs.length → Step S M H S' M' H' → Wo S' M' H' → G M' → J.yld i H' x H2 → Same H' H2 ∧ ∃ d, xs[i]? = some d ∧ Dt S' H2 x d
abbrev DI := Dl → Mem → ((Mem → Prop) → List D → Mem → Prop) → Prop
class PuI (t : TI) (dt : outParam DI) : Prop where
  run : ∀ S M σ δ H (P : (Mem → Prop) → List D → Mem → Prop) (R : It → Hp → Prop), Wo S M H → En S H σ δ → dt δ M P → (∀ G xs S' M' H' J, P G xs M' → Step S M H S' M' H' → Wo S' M' H' → Walks J G S' M' H' xs → R J H') → t σ H R
def rDiL (x : D) (M : Mem) (P : (Mem → Prop) → List D → Mem → Prop) : Prop := (∃ xs, x = .lst xs ∧ P (fun _ => True) xs M) ∨ ∃ p xs, x = .ptr p ∧ M p = some (.lst xs) ∧ P (fun M => M p = some (.lst xs)) xs M
def diL (a : DE) : DI := fun δ M P => a δ M fun x M1 => rDiL x M1 P
def diT (a : DE) : DI := fun δ M P => a δ M fun x M1 => ∃ xs, isTF x xs ∧ P (fun _ => True) xs M1
def diS (a : DE) : DI := fun δ M P => a δ M fun x M1 => ∃ z, x = .str z ∧ P (fun _ => True) ((cd z).map sgn) M1
def diR1 (a : DA) : DI := fun δ M P => a δ M fun xs M1 => ∃ j : Int, xs = [.int j] ∧ -(2 ^ 62) ≤ j ∧ j < 2 ^ 62 ∧ P (fun _ => True) (rgD 0 j) M1
def diR2 (a : DA) : DI := fun δ M P => a δ M fun xs M1 => ∃ i j : Int, xs = [.int i, .int j] ∧ (-(2 ^ 62) ≤ i ∧ i < 2 ^ 62 ∧ -(2 ^ 62) ≤ j ∧ j < 2 ^ 62) ∧ P (fun _ => True) (rgD i j) M1
section
variable {S S' : Addr → Prop} {M M' : Mem} {H H' : Hp} {K : PySem.W.Frag}
theorem at_some {α : Type} {xs : List α} {i : Nat} (h : i < xs.length) : xs[i]? = some xs[i] := by simp [h]
theorem walks_list {a : Addr} {vs : List V} {xs : List D} {G : Mem → Prop} (q : ∀ S' M' H', Step S M H S' M' H' → Wo S' M' H' → G M' → ∃ vs, H' a = some (.lst vs) ∧ DtA S' H' vs xs) : Walks (Itl K a) G S M H xs where
  stop S' M' H' t w g := by
    obtain ⟨vs, h1, h2⟩ := q S' M' H' t w g
    exact ⟨vs, SqL.of h1, by rw [h2.length]; exact Nat.le_refl _⟩
  go i S' M' H' hi t w g := by
    obtain ⟨vs, h1, h2⟩ := q S' M' H' t w g
    have hl := h2.length
    exact ⟨vs, vs[i], SqL.of h1, at_some (by omega)⟩
  yld i S' M' H' x H2 hi t w g y := by
    obtain ⟨vs, h1, h2⟩ := q S' M' H' t w g
    obtain ⟨rfl, y⟩ := y
    obtain ⟨d, e1, e2⟩ := h2.getV (y vs (SqL.of h1))
    exact ⟨Same.refl _, d, e1, e2⟩
theorem walks_tf {a : Addr} {vs : List V} {xs : List D} {G : Mem → Prop} (q : ∀ S' M' H', Step S M H S' M' H' → Wo S' M' H' → G M' → ∃ vs, Rd H' a (.tup vs) ∧ DtA S' H' vs xs) : Walks (Itt K a) G S M H xs where
  stop S' M' H' t w g := by
    obtain ⟨vs, h1, h2⟩ := q S' M' H' t w g
    exact ⟨vs, Or.inl h1, by rw [h2.length]; exact Nat.le_refl _⟩
  go i S' M' H' hi t w g := by
    obtain ⟨vs, h1, h2⟩ := q S' M' H' t w g
    have hl := h2.length
    exact ⟨vs, vs[i], Or.inl h1, at_some (by omega)⟩
  yld i S' M' H' x H2 hi t w g y := by
    obtain ⟨vs, h1, h2⟩ := q S' M' H' t w g
    obtain ⟨rfl, y⟩ := y
    obtain ⟨d, e1, e2⟩ := h2.getV (y vs (Or.inl h1))
    exact ⟨Same.refl _, d, e1, e2⟩
theorem stay_lst (w : Wo S M H) {a : Addr} {xs : List D} (h : Dt S H (.ref a) (.lst xs)) : ∀ S' M' H', Step S M H S' M' H' → Wo S' M' H' → True → ∃ vs, H' a = some (.lst vs) ∧ DtA S' H' vs xs := fun S' M' H' t w' _ => by
  have h' := dt_step w t _ h
  cases h' with
  | lst n ha hs => exact ⟨_, ha, hs⟩
theorem stay_tup (w : Wo S M H) {a : Addr} {xs : List D} (h : Dt S H (.ref a) (.tup xs)) : ∀ S' M' H', Step S M H S' M' H' → Wo S' M' H' → True → ∃ vs, H' a = some (.tup vs) ∧ DtA S' H' vs xs := fun S' M' H' t w' _ => by
  have h' := dt_step w t _ h
  cases h' with
  | tup n ha hs => exact ⟨_, ha, hs⟩
theorem stay_tf (w : Wo S M H) {a : Addr} {x : D} {xs : List D} (h : Dt S H (.ref a) x) (e : isTF x xs) : ∀ S' M' H', Step S M H S' M' H' → Wo S' M' H' → True → ∃ vs, Rd H' a (.tup vs) ∧ DtA S' H' vs xs := fun S' M' H' t w' _ => by
  have h' := dt_step w t _ h
  obtain ⟨b, vs, e1, n, ha, hs⟩ := tf_get h' e
  cases e1
  exact ⟨vs, ha, hs⟩
theorem rgD_get {i j : Int} {k : Nat} (h : k < (rgD i j).length) : (rgD i j)[k]? = some (.int (i + (k : Nat))) := by
  unfold rgD at h ⊢
  rw [List.length_map, List.length_range] at h
  rw [List.getElem?_map, List.getElem?_range h]
  rfl
theorem rgD_len (i j : Int) : (rgD i j).length = (j - i).toNat := by unfold rgD; rw [List.length_map, List.length_range]
theorem walks_rng {lo hi : Int} {n : Nat} (hn : (hi - lo).toNat = n) {G : Mem → Prop} : Walks (Itr lo n) G S M H (rgD lo hi) where
  stop S' M' H' t w g := by rw [rgD_len, hn]; exact Nat.le_refl n
  go i S' M' H' hi t w g := by rw [rgD_len, hn] at hi; exact hi
  yld i S' M' H' x H2 hi t w g y := by
    obtain ⟨rfl, rfl⟩ := y
    exact ⟨Same.refl _, _, rgD_get hi, .int _⟩
theorem walks_str {z : Str} {G : Mem → Prop} : Walks (Its z) G S M H ((cd z).map sgn) where
  stop S' M' H' t w g := by rw [List.length_map]; show z.cps.size ≤ _; rw [cd_size]; exact Nat.le_refl _
  go i S' M' H' hi t w g := by rw [List.length_map] at hi; show i < z.cps.size; rw [cd_size]; exact hi
  yld i S' M' H' x H2 hi t w g y := by
    obtain ⟨rfl, c, hc, rfl⟩ := y
    refine ⟨Same.refl _, sgn c, ?_, .str _⟩
    rw [List.getElem?_map, cd_get hc]
    rfl
end
section
variable {ta : TE} {da : DE} {K : PySem.W.Frag} {tt : TA} {dd : DA}
instance pu_iL [A : PuE ta da] : PuI (iList K ta) (diL da) := ⟨fun S M σ δ H P R w e h k =>
  A.run S M σ δ H _ _ w e h fun d S1 M1 v H1 p1 t1 w1 h1 => by
    rcases p1 with ⟨xs, rfl, p1⟩ | ⟨p, xs, rfl, hm, p1⟩
    · cases h1 with
      | lst n ha hs => exact ⟨_, rfl, ⟨_, SqL.of ha⟩, k _ xs S1 M1 H1 _ p1 t1 w1 (walks_list (vs := []) (stay_lst w1 (.lst n ha hs)))⟩
    · cases h1
      obtain ⟨_, vs, ha, hs⟩ := w1.mem p _ hm
      refine ⟨_, rfl, ⟨_, SqL.of ha⟩, k _ xs S1 M1 H1 _ p1 t1 w1 (walks_list (vs := []) fun S' M' H' t w' g => ?_)⟩
      obtain ⟨_, vs, h1, h2⟩ := w'.mem p _ g
      exact ⟨vs, h1, h2⟩⟩
instance pu_iT [A : PuE ta da] : PuI (iTup K ta) (diT da) := ⟨fun S M σ δ H P R w e h k =>
  A.run S M σ δ H _ _ w e h fun d S1 M1 v H1 p1 t1 w1 h1 => by
    obtain ⟨xs, hx, p1⟩ := p1
    obtain ⟨a, vs, rfl, n, ha, hs⟩ := tf_get h1 hx
    exact ⟨_, rfl, ⟨_, Or.inl ha⟩, k _ xs S1 M1 H1 _ p1 t1 w1 (walks_tf (vs := []) (stay_tf w1 h1 hx))⟩⟩
instance pu_iS [A : PuE ta da] : PuI (iStr ta) (diS da) := ⟨fun S M σ δ H P R w e h k =>
  A.run S M σ δ H _ _ w e h fun d S1 M1 v H1 p1 t1 w1 h1 => by
    obtain ⟨z, rfl, p1⟩ := p1
    cases h1
    exact ⟨z, rfl, k _ _ S1 M1 H1 _ p1 t1 w1 walks_str⟩⟩
instance pu_iR1 [A : PuA tt dd] : PuI (iRng1 tt) (diR1 dd) := ⟨fun S M σ δ H P R w e h k =>
  A.run S M σ δ H _ _ w e h fun d S1 M1 v H1 p1 t1 w1 h1 => by
    obtain ⟨j, rfl, b1, b2, p1⟩ := p1
    match v, h1 with
    | [_], .cons (.int _) .nil => exact ⟨j, rfl, b1, b2, k _ _ S1 M1 H1 _ p1 t1 w1 (walks_rng (by rw [Int.sub_zero]))⟩⟩
instance pu_iR2 [A : PuA tt dd] : PuI (iRng2 tt) (diR2 dd) := ⟨fun S M σ δ H P R w e h k =>
  A.run S M σ δ H _ _ w e h fun d S1 M1 v H1 p1 t1 w1 h1 => by
    obtain ⟨i, j, rfl, b, p1⟩ := p1
    match v, h1 with
    | [_, _], .cons (.int _) (.cons (.int _) .nil) => exact ⟨i, j, rfl, b, k _ _ S1 M1 H1 _ p1 t1 w1 (walks_rng rfl)⟩⟩
end
/-- the turns that are left -/
def dLoop (G : Mem → Prop) (g : DG) (b : DS) (nx : QS) (rt : QD) : List D → QS
  | [], δ, M => nx δ M
  | x :: xs, δ, M => g x δ M fun δ1 M1 => b (fun δ' M' => G M' ∧ dLoop G g b nx rt xs δ' M') rt nx (fun δ' M' => G M' ∧ dLoop G g b nx rt xs δ' M') δ1 M1
def sFor (i : DI) (g : DG) (b : DS) : DS := fun nx rt _ _ δ M => i δ M fun G xs M1 => G M1 ∧ dLoop G g b nx rt xs δ M1
theorem drop_cons {α : Type} {xs : List α} {i : Nat} {x : α} (h : xs[i]? = some x) : xs.drop i = x :: xs.drop (i + 1) := by
  obtain ⟨hi, rfl⟩ := List.getElem?_eq_some_iff.mp h
  exact List.drop_eq_getElem_cons hi
instance pu_for {ti : TI} {g : TG} {t : TS} {di : DI} {dg : DG} {dt : DS} {sl : List Nat} [I : PuI ti di] [A : PuG g dg sl] [B : PuS t dt] : PuS (tFor ti g t) (sFor di dg dt) := ⟨fun S M σ δ H nx rt bk ct E w e h l =>
  I.run S M σ δ H _ _ w e h fun G xs S1 M1 H1 J p1 t1 w1 wk => by
    refine ⟨fun i m σ' H' => i ≤ xs.length ∧ m = xs.length - i ∧ ∃ S' M' δ', G M' ∧ dLoop G dg dt nx rt (xs.drop i) δ' M' ∧ Step S1 M1 H1 S' M' H' ∧ Wo S' M' H' ∧ En S' H' σ' δ', ⟨_, Nat.zero_le _, rfl, S1, M1, δ, p1.1, p1.2, .refl, w1, e.step w t1⟩, ?_⟩
    rintro i m σ2 H2 ⟨hi, rfl, S2, M2, δ2, g2, p2, t2, w2, e2⟩
    by_cases hlt : i < xs.length
    · refine .inr ⟨wk.go i S2 M2 H2 hlt t2 w2 g2, fun σ' H' => ∃ S' M' δ', G M' ∧ dLoop G dg dt nx rt (xs.drop (i + 1)) δ' M' ∧ Step S1 M1 H1 S' M' H' ∧ Wo S' M' H' ∧ En S' H' σ' δ', ?_, ?_⟩
      · rintro σ' H' q
        exact ⟨_, by omega, hlt, rfl, q⟩
      · intro x H3 y
        obtain ⟨same, d, hd, hx⟩ := wk.yld i S2 M2 H2 x H3 hlt t2 w2 g2 y
        rw [drop_cons hd] at p2
        have t3 : Step S2 M2 H2 S2 M2 H3 := .same same
        have w3 := w2.same same
        refine A.run S2 M2 σ2 δ2 H3 x d _ _ w3 (e2.step w2 t3) hx p2 fun δ4 S4 M4 σ4 H4 p4 t4 w4 e4 _ => ?_
        have t14 := (t2.trans t3).trans t4
        refine B.run S4 M4 σ4 δ4 H4 _ _ _ _ _ w4 e4 p4 ⟨?_, l.rt.go (t1.trans t14), fun a b c d e p t5 w f => l.nx a b c d e p ((t1.trans t14).trans t5) w f, ?_⟩
        · rintro δ5 S5 M5 σ5 H5 ⟨g5, p5⟩ t5 w5 e5
          exact ⟨S5, M5, δ5, g5, p5, t14.trans t5, w5, e5⟩
        · rintro δ5 S5 M5 σ5 H5 ⟨g5, p5⟩ t5 w5 e5
          exact ⟨S5, M5, δ5, g5, p5, t14.trans t5, w5, e5⟩
    · have ei : i = xs.length := by omega
      subst ei
      rw [List.drop_length] at p2
      exact .inl ⟨wk.stop S2 M2 H2 t2 w2 g2, l.nx _ S2 M2 _ H2 p2 (t1.trans t2) w2 e2⟩⟩
def dGather (G : Mem → Prop) (g : DG) (t : DT) (a : DE) (vs : List Nat) (δ : Dl) (P : QD) : List D → List D → Mem → Prop
  | [], acc, M => P (.lst acc) M
  | x :: xs, acc, M => g x (wipeD δ vs) M fun δ1 M1 => t δ1 M1 fun b M2 => if b = true then a δ1 M2 fun y M3 => G M3 ∧ dGather G g t a vs δ P xs (acc ++ [y]) M3 else G M2 ∧ dGather G g t a vs δ P xs acc M2
def dLc (i : DI) (g : DG) (t : DT) (a : DE) (vs : List Nat) : DE := fun δ M P => i δ M fun G xs M1 => G M1 ∧ xs.length ≤ 16777216 ∧ dGather G g t a vs δ P xs [] M1
class MemL (i : Nat) (vs : List Nat) : Prop where
  h : i ∈ vs
instance memL_h {i : Nat} {vs : List Nat} : MemL i (i :: vs) := ⟨List.mem_cons_self⟩
instance memL_t {i j : Nat} {vs : List Nat} [A : MemL i vs] : MemL i (j :: vs) := ⟨List.mem_cons_of_mem _ A.h⟩
instance memL_mh {i : Nat} {n : Str} {l : List (Str × Nat)} : MemL i (List.map (fun x => x.2) ((n, i) :: l)) := ⟨by simp⟩
instance memL_mt {i j : Nat} {n : Str} {l : List (Str × Nat)} [A : MemL i (List.map (fun x => x.2) l)] : MemL i (List.map (fun x => x.2) ((n, j) :: l)) := ⟨List.mem_cons_of_mem _ A.h⟩
class SubL (sl vs : List Nat) : Prop where
  h : ∀ i ∈ sl, i ∈ vs
instance subL_nil {vs : List Nat} : SubL [] vs := ⟨fun _ h => by cases h⟩
instance subL_cons {i : Nat} {sl vs : List Nat} [A : MemL i vs] [B : SubL sl vs] : SubL (i :: sl) vs := ⟨fun j h => (List.mem_cons.mp h).elim (fun e => by rw [e]; exact A.h) (B.h j)⟩
instance subL_app {s1 s2 vs : List Nat} [A : SubL s1 vs] [B : SubL s2 vs] : SubL (s1 ++ s2) vs := ⟨fun j h => (List.mem_append.mp h).elim (A.h j) (B.h j)⟩
def dYes : DT := fun _ M P => P true M
instance pu_yes : PuT tYes dYes := ⟨fun S M σ δ H P Q w e h k => k _ S M H h .refl w⟩
theorem wipe_wipe (σ : L2.St) (vs : List Nat) : L2.wipe (L2.wipe σ vs) vs = L2.wipe σ vs := by
  have : ∀ (us : List Nat), (∀ i ∈ us, i ∈ vs) → L2.wipe (L2.wipe σ us) vs = L2.wipe σ vs := by
    intro us
    induction us with
    | nil => intro _; rfl
    | cons u us ih =>
      intro h
      rw [show L2.wipe σ (u :: us) = (L2.wipe σ us).set u none from rfl, wipe_set _ _ _ _ (h u List.mem_cons_self)]
      exact ih fun i hi => h i (List.mem_cons_of_mem _ hi)
  exact this vs fun _ h => h
instance pu_lc {ti : TI} {g : TG} {t : TT} {ta : TE} {di : DI} {dg : DG} {dt : DT} {da : DE} {sl vs : List Nat} [I : PuI ti di] [A : PuG g dg sl] [sub : SubL sl vs] [T : PuT t dt] [B : PuE ta da] : PuE (tLc ti g t ta vs) (dLc di dg dt da vs) := ⟨fun S M σ δ H P Q w e h k =>
  I.run S M σ δ H _ _ w e h fun G xs S1 M1 H1 J p1 t1 w1 wk => by
    intro D0 hD
    obtain ⟨g1, hn, p1⟩ := p1
    -- what stands between the turns
    let Iv : Nat → Hp → Prop := fun i H' => ∃ S' M' acc ws, G M' ∧ dGather G dg dt da vs δ P (xs.drop i) acc M' ∧ Step S1 M1 H1 S' M' H' ∧ Wo S' M' H' ∧ En S' H' σ δ ∧ S' D0 ∧ M' D0 = none ∧ H' D0 = some (.lst ws) ∧ DtA S' H' ws acc ∧ acc.length ≤ i
    refine ⟨fun i m H' => i ≤ xs.length ∧ m = xs.length - i ∧ Iv i H', ⟨_, Nat.zero_le _, rfl, (fun a => S1 a ∨ a = D0), M1, [], [], g1, p1, .apart hD, w1.apart hD, (e.step w t1).step w1 (.apart hD), .inr rfl, w1.fresh hD, upd_same, .nil, Nat.zero_le _⟩, ?_⟩
    rintro i m H2 ⟨hi, rfl, S2, M2, acc, ws, g2, p2, t2, w2, e2, sD, mD, hL, hA, hlen⟩
    by_cases hlt : i < xs.length
    · refine .inr ⟨wk.go i S2 M2 H2 hlt t2 w2 g2, Iv (i + 1), fun H' q => ⟨_, by omega, hlt, rfl, q⟩, ?_⟩
      intro x H3 y
      obtain ⟨same, d, hd, hx⟩ := wk.yld i S2 M2 H2 x H3 hlt t2 w2 g2 y
      rw [drop_cons hd] at p2
      have t3 : Step S2 M2 H2 S2 M2 H3 := .same same
      have w3 := w2.same same
      have e3 := e2.step w2 t3
      refine A.run S2 M2 _ _ H3 x d _ _ w3 (e3.wipe vs) hx p2 fun δ4 S4 M4 σ4 H4 p4 t4 w4 e4 o4 => ⟨by rw [o4 vs sub.h, wipe_wipe], ?_⟩
      refine T.run S4 M4 σ4 δ4 H4 _ _ w4 e4 p4 fun b S5 M5 H5 p5 t5 w5 => ?_
      have t25 := (t3.trans t4).trans t5
      obtain ⟨hL5, mD5, sD5⟩ := t25.keep _ _ mD hL
      have hA5 := dtA_step w2 t25 _ hA
      cases b with
      | true =>
        rw [if_pos rfl] at p5 ⊢
        refine B.run S5 M5 σ4 δ4 H5 _ _ w5 (e4.step w4 t5) p5 fun y S6 M6 v H6 p6 t6 w6 h6 => ?_
        obtain ⟨hL6, mD6, sD6⟩ := t6.keep _ _ mD5 hL5
        have hA6 := dtA_step w5 t6 _ hA5
        have sd : S6 D0 := sD6.mpr (sD5.mpr sD)
        have ex : Ext S6 H6 (upd H6 D0 (.lst (ws ++ [v]))) := Ext.mut (Ext.refl _) sd
        refine ⟨ws, hL6, by rw [hA.length]; exact Nat.lt_of_le_of_lt hlen (Nat.lt_of_lt_of_le hlt (by rw [sizeLine_eq]; exact hn)), S6, M6, acc ++ [y], ws ++ [v], p6.1, p6.2, ?_, ?_, ?_, sd, mD6, upd_same, (hA6.snoc h6).go ex, by rw [List.length_append, List.length_singleton]; omega⟩
        · have t16 := (t2.trans t25).trans t6
          refine ⟨fun b o n hb => ?_⟩
          obtain ⟨q1, q2, q3⟩ := t16.keep b o n hb
          exact ⟨(upd_ne (ne_of_none hb hD)).trans q1, q2, q3⟩
        · refine ⟨fun a s => ?_, fun a mo q => ?_⟩
          · by_cases c : a = D0
            · rw [c, upd_same]; exact fun z => nomatch z
            · rw [upd_ne c]; exact w6.tr a s
          · obtain ⟨s, q2⟩ := w6.mem a mo q
            have c : a ≠ D0 := by rintro rfl; rw [mD6] at q; cases q
            exact ⟨s, held_ext ex (fun u hu => (upd_ne c).trans hu) q2⟩
        · have e6 : En S6 H6 σ δ := e3.step w3 ((t4.trans t5).trans t6)
          exact ⟨e6.len, fun i d h => by
            obtain ⟨v, h1, h2⟩ := e6.at_ i d h
            exact ⟨v, h1, h2.go ex⟩⟩
      | false =>
        rw [if_neg Bool.false_ne_true] at p5 ⊢
        exact ⟨S5, M5, acc, ws, p5.1, p5.2, t2.trans t25, w5, e2.step w2 t25, sD5.mpr sD, mD5, hL5, hA5, by omega⟩
    · have ei : i = xs.length := by omega
      subst ei
      rw [List.drop_length] at p2
      refine .inl ⟨wk.stop S2 M2 H2 t2 w2 g2, k _ (fun a => S2 a ∧ a ≠ D0) M2 _ H2 p2 (t1.trans ⟨fun b o n hb => ?_⟩) ⟨fun a s => w2.tr a s.1, fun a mo q => ?_⟩ (.lst (fun z => z.2 rfl) hL (dtA_freeze hA))⟩
      · obtain ⟨q1, q2, q3⟩ := t2.keep b o n hb
        have c := ne_of_none hb hD
        exact ⟨q1, q2, ⟨fun z => q3.mp z.1, fun z => ⟨q3.mpr z, c⟩⟩⟩
      · obtain ⟨s, q2⟩ := w2.mem a mo q
        have c : a ≠ D0 := by rintro rfl; rw [mD] at q; cases q
        exact ⟨⟨s, c⟩, held_set (fun b n _ z => n z.1) q2⟩⟩
end V
namespace V
open PySem PySem.Spec PyProof.Rows L2 U StX
theorem pe_lstM {X : Cx} {es : List Expr} {t : TA} {pos : Pos} (h : PA X es t) : PE X (.List es pos) (tLstM t) := pe_lst h
def lift (sp : DC) : Sp := fun vs H Q E => ∃ S M ds P, Wo S M H ∧ DtA S H vs ds ∧ sp ds M P ∧ AtE S M H P Q
/-- an __init__ whose instance changes no more -/
def liftF (sp : DC) : Sp := lift sp
def startD (N : List Str) (ds : List D) : Dl := ds.map some ++ List.replicate (N.length - ds.length) none
theorem en_start {S : Addr → Prop} {H : Hp} (N : List Str) : ∀ {vs : List V} {ds : List D}, DtA S H vs ds → En S H (L2.start N vs) (startD N ds) := by
  intro vs ds h
  have hl := h.length
  refine ⟨by unfold L2.start startD; simp [hl], fun i d hi => ?_⟩
  unfold startD at hi
  unfold L2.start
  by_cases c : i < ds.length
  · rw [List.getElem?_append_left (by rw [List.length_map]; exact c), List.getElem?_map] at hi
    obtain ⟨d', h1, h2⟩ := Option.map_eq_some_iff.mp hi
    cases h2
    obtain ⟨v, h3, h4⟩ := h.get h1
    refine ⟨v, ?_, h4⟩
    rw [List.getElem?_append_left (by rw [List.length_map]; omega), List.getElem?_map, h3]
    rfl
  · rw [List.getElem?_append_right (by rw [List.length_map]; omega), List.getElem?_replicate] at hi
    split at hi <;> cases hi
section
variable {P : Program} {w : World} {K : PySem.W.Frag} {mg : Str → Option Value} {base : Heap} {x qual : Str} {st : Stmt} {f : Addr} {fd : FuncData} {N ps : List Str} {k : Nat} {sp : DC}
theorem liftLen (len : ∀ ds M P, sp ds M P → ds.length = ps.length) : ∀ vs H Q E, lift sp vs H Q E → vs.length = ps.length := fun vs H Q E ⟨S, M, ds, P, _, h, p, _⟩ => by rw [h.length]; exact len ds M P p
theorem body_run {X : Cx} {body : List Stmt} {t : TS} {dt : DS} [A : PuS t dt] (go : ∀ ds M P, sp ds M P → dt (fun _ M' => P .non M') P (fun _ _ => False) (fun _ _ => False) (startD N ds) M) {vs : List V} {H : Hp} {Q : VK} {E : XK} (h : lift sp vs H Q E) :
    t { nx := fun _ H' => Q .non H', rt := Q } (L2.start N vs) H := by
  obtain ⟨S, M, ds, P, w, h, p, k⟩ := h
  exact A.run S M _ _ H _ _ _ _ _ w (en_start N h) (go ds M P p) ⟨fun δ' S' M' σ' H' q t w e => k _ S' M' _ H' q t w .non, k, fun _ _ _ _ _ q => q.elim, fun _ _ _ _ _ q => q.elim⟩
theorem fnD (F : L2.Fun K x qual st f fd) (S : FnScope N ps (L2.defScope st)) (len : ∀ ds M P, sp ds M P → ds.length = ps.length)
    (hb : ∀ (cdv : Value) (A : Around) (outer : List Env) (s : Shared) (H : Hp) (E : XK), Room k (A.deeper (envOfC qual (L2.defScope st) s.heap.objs.size f cdv)) →
      ∃ t, PSs (cxOf L2.CX0 P w K mg base N qual (L2.defScope st) f cdv A outer s H E).nox (L2.defBody st) t ∧ ∃ dt, PuS t dt ∧ ∀ ds M P, sp ds M P → dt (fun _ M' => P .non M') P (fun _ _ => False) (fun _ _ => False) (startD N ds) M) :
    FnOk P w K mg base L2.CX0 (k + 1) f fd ps (lift sp) :=
  F.ok S (liftLen len) fun cdv A outer s H vs Q E hr h => by
    obtain ⟨t, ht, dt, A, go⟩ := hb cdv A outer s H E hr
    exact ⟨t, ht, body_run (X := cxOf L2.CX0 P w K mg base N qual (L2.defScope st) f cdv ‹_› outer s H E) (body := L2.defBody st) go h⟩
theorem fnDG (F : L2.Fun K x qual st f fd) (S : FnScope N ps (L2.defScope st)) (len : ∀ ds M P, sp ds M P → ds.length = ps.length)
    (hb : ∀ (cdv : Value) (A : Around) (outer : List Env) (s : Shared) (H : Hp) (E : XK), Room k (A.deeper (envOfC qual (L2.defScope st) s.heap.objs.size f cdv)) → A.guards = some [] →
      ∃ t, PSs (cxOf L2.CX0 P w K mg base N qual (L2.defScope st) f cdv A outer s H E).nox (L2.defBody st) t ∧ ∃ dt, PuS t dt ∧ ∀ ds M P, sp ds M P → dt (fun _ M' => P .non M') P (fun _ _ => False) (fun _ _ => False) (startD N ds) M) :
    FnG P w K mg base (k + 1) f fd ps (lift sp) :=
  fnG_of F S (liftLen len) fun cdv A outer s H vs Q E hr hg h => by
    obtain ⟨t, ht, dt, A, go⟩ := hb cdv A outer s H E hr hg
    exact ⟨t, ht, body_run (X := cxOf L2.CX0 P w K mg base N qual (L2.defScope st) f cdv ‹_› outer s H E) (body := L2.defBody st) go h⟩
theorem fn_weak {spA spB : Sp} {CX : CXT} (F : FnOk P w K mg base CX k f fd ps spA) (h : ∀ vs H Q E, spB vs H Q E → spA vs H Q E) : FnOk P w K mg base CX k f fd ps spB :=
  ⟨fun vs H Q E q => F.len vs H Q E (h vs H Q E q), fun A outer s H args us vs Q E hr e0 hb r hsp => F.run A outer s H args us vs Q E hr e0 hb r (h _ _ _ _ hsp)⟩
theorem fnG_weak {spA spB : Sp} (F : FnG P w K mg base k f fd ps spA) (h : ∀ vs H Q E, spB vs H Q E → spA vs H Q E) : FnG P w K mg base k f fd ps spB :=
  ⟨fun vs H Q E q => F.len vs H Q E (h vs H Q E q), fun A outer s H args us vs Q E hr hg e0 hb r hsp => F.run A outer s H args us vs Q E hr hg e0 hb r (h _ _ _ _ hsp)⟩
end
def dCall (sp : DC) (t : DA) : DE := fun δ M P => t δ M fun ds M1 => sp ds M1 P
class RelG (gV : List V → List V → List V) (gD : outParam (List D → List D → List D)) : Prop where
  run : ∀ S H vs ds zs es, DtA S H vs ds → DtA S H zs es → DtA S H (gV vs zs) (gD ds es)
instance relG_0 : RelG (fun us ws => us ++ pk0 ws) (fun us ws => us ++ pk0 ws) := ⟨fun _ _ _ _ _ _ h k => h.append k⟩
instance relG_01 : RelG (fun us ws => us ++ pk0_1 ws) (fun us ws => us ++ pk0_1 ws) := ⟨fun _ _ _ _ _ _ h k => h.append k⟩
theorem pk1_0_dt {S : Addr → Prop} {H : Hp} {zs : List V} {es : List D} (k : DtA S H zs es) : DtA S H (pk1_0 zs) (pk1_0 es) := by
  match zs, es, k with
  | [], [], .nil => exact .nil
  | [_], [_], .cons a .nil => exact .cons a .nil
  | [_, _], [_, _], .cons a (.cons b .nil) => exact .cons b (.cons a .nil)
  | _ :: _ :: _ :: _, _ :: _ :: _ :: _, .cons a (.cons b (.cons c t)) => exact .cons a (.cons b (.cons c t))
theorem pk2_1_0_dt {S : Addr → Prop} {H : Hp} {zs : List V} {es : List D} (k : DtA S H zs es) : DtA S H (pk2_1_0 zs) (pk2_1_0 es) := by
  match zs, es, k with
  | [], [], .nil => exact .nil
  | [_], [_], .cons a .nil => exact .cons a .nil
  | [_, _], [_, _], .cons a (.cons b .nil) => exact .cons a (.cons b .nil)
  | [_, _, _], [_, _, _], .cons a (.cons b (.cons c .nil)) => exact .cons c (.cons b (.cons a .nil))
  | _ :: _ :: _ :: _ :: _, _ :: _ :: _ :: _ :: _, .cons a (.cons b (.cons c (.cons d t))) => exact .cons a (.cons b (.cons c (.cons d t)))
theorem pk3_2_1_0_dt {S : Addr → Prop} {H : Hp} {zs : List V} {es : List D} (k : DtA S H zs es) : DtA S H (pk3_2_1_0 zs) (pk3_2_1_0 es) := by
  match zs, es, k with
  | [], [], .nil => exact .nil
  | [_], [_], .cons a .nil => exact .cons a .nil
  | [_, _], [_, _], .cons a (.cons b .nil) => exact .cons a (.cons b .nil)
  | [_, _, _], [_, _, _], .cons a (.cons b (.cons c .nil)) => exact .cons a (.cons b (.cons c .nil))
  | [_, _, _, _], [_, _, _, _], .cons a (.cons b (.cons c (.cons d .nil))) => exact .cons d (.cons c (.cons b (.cons a .nil)))
  | _ :: _ :: _ :: _ :: _ :: _, _ :: _ :: _ :: _ :: _ :: _, .cons a (.cons b (.cons c (.cons d (.cons e t)))) => exact .cons a (.cons b (.cons c (.cons d (.cons e t))))
instance relG_10 : RelG (fun us ws => us ++ pk1_0 ws) (fun us ws => us ++ pk1_0 ws) := ⟨fun _ _ _ _ _ _ h k => h.append (pk1_0_dt k)⟩
instance relG_210 : RelG (fun us ws => us ++ pk2_1_0 ws) (fun us ws => us ++ pk2_1_0 ws) := ⟨fun _ _ _ _ _ _ h k => h.append (pk2_1_0_dt k)⟩
instance relG_3210 : RelG (fun us ws => us ++ pk3_2_1_0 ws) (fun us ws => us ++ pk3_2_1_0 ws) := ⟨fun _ _ _ _ _ _ h k => h.append (pk3_2_1_0_dt k)⟩
def dCallN (n m : Nat) (sp : DC) (g : List D → List D → List D) (t tk : DA) : DE := fun δ M P => t δ M fun ds M1 => tk δ M1 fun es M2 => ds.length = n ∧ es.length = m ∧ sp (g ds es) M2 P
def dMeth (C : Addr) (m : Str) (sp : DC) (a : DE) (t : DA) : DE := fun δ M P => a δ M fun x M1 => (∃ ns xs, isIn M1 x C ns xs ∧ m ∉ ns) ∧ t δ M1 fun ds M2 => sp (x :: ds) M2 P
/-- a new instance -/
def rMake (C : Addr) (sp : DC) : DC := fun ds M P => ∀ x, M x = none → sp (.ptr x :: ds) (mset M x (.ins C [])) fun d M2 => d = .non ∧ P (.ptr x) M2
def rMakeF (C : Addr) (sp : DC) : DC := fun ds M P => ∀ x, M x = none → sp (.ptr x :: ds) (mset M x (.ins C [])) fun d M2 => d = .non ∧ ∃ fs, M2 x = some (.ins C fs) ∧ P (.ins C (fs.map (·.1)) (fs.map (·.2))) (mdel M2 x)
def dMakeK (r : DC) (g : List D → List D) (n : Nat) (tk : DA) : DE := fun δ M P => tk δ M fun es M1 => es.length = n ∧ r (g es) M1 P
section
variable {t tk : TA} {dt dk : DA} {ta : TE} {da : DE} {sp : DC} {E : XK} {C : Addr} {m : Str}
instance pu_call [A : PuA t dt] : PuE (tCall (lift sp) [] E t) (dCall sp dt) := ⟨fun S M σ δ H P Q w e h k =>
  A.run S M σ δ H _ _ w e h fun ds S1 M1 vs H1 p1 t1 w1 h1 => by
    rw [List.append_nil]
    exact ⟨S1, M1, ds, P, w1, h1, p1, k.go t1⟩⟩
instance pu_callN {n l : Nat} {gV : List V → List V → List V} {gD : List D → List D → List D} [A : PuA t dt] [B : PuA tk dk] [G : RelG gV gD] : PuE (tCallN n l (lift sp) gV E t tk) (dCallN n l sp gD dt dk) := ⟨fun S M σ δ H P Q w e h k =>
  A.run S M σ δ H _ _ w e h fun ds S1 M1 vs H1 p1 t1 w1 h1 =>
    B.run S1 M1 σ δ H1 _ _ w1 (e.step w t1) p1 fun es S2 M2 zs H2 p2 t2 w2 h2 => by
      obtain ⟨l1, l2, p2⟩ := p2
      exact ⟨by rw [h1.length]; exact l1, by rw [h2.length]; exact l2, S2, M2, _, P, w2, G.run S2 H2 _ _ _ _ (dtA_step w1 t2 _ h1) h2, p2, k.go (t1.trans t2)⟩⟩
theorem lookup_none {fs : List (Str × V)} (h : m ∉ fs.map (·.1)) : fs.lookup m = none := by
  induction fs with
  | nil => rfl
  | cons p fs ih =>
    rw [List.map_cons, List.mem_cons, not_or] at h
    obtain ⟨a, b⟩ := p
    rw [List.lookup_cons]
    have : (m == a) = false := by simpa using h.1
    simp only [this]
    exact ih h.2
instance pu_meth [A : PuE ta da] [B : PuA t dt] : PuE (tMeth C m (lift sp) [] E ta t) (dMeth C m sp da dt) := ⟨fun S M σ δ H P Q w e h k =>
  A.run S M σ δ H _ _ w e h fun d S1 M1 v H1 p1 t1 w1 h1 => by
    obtain ⟨⟨ns, xs, hi, hm⟩, p1⟩ := p1
    obtain ⟨a, dx, fs, rfl, ha, hn, hs⟩ := in_get w1 h1 hi
    refine ⟨a, dx, fs, rfl, ha, lookup_none (by rw [hn]; exact hm), B.run S1 M1 σ δ H1 _ _ w1 (e.step w t1) p1 fun ds S2 M2 vs H2 p2 t2 w2 h2 => ?_⟩
    rw [List.append_nil]
    exact ⟨S2, M2, d :: ds, P, w2, .cons (dt_step w1 t2 _ h1) h2, p2, k.go (t1.trans t2)⟩⟩
theorem new_ins {S : Addr → Prop} {M : Mem} {H : Hp} (w : Wo S M H) {x dx : Addr} (nx : H x = none) (nd : H dx = none) (ne : dx ≠ x) :
    Wo (fun a => S a ∨ a = x) (mset M x (.ins C [])) (upd (upd H dx (.own x)) x (.ins C dx [])) ∧ Step S M H (fun a => S a ∨ a = x) (mset M x (.ins C [])) (upd (upd H dx (.own x)) x (.ins C dx [])) := by
  have w1 := w.new (o := .own x) nd
  have nx1 : upd H dx (.own x) x = none := by rw [upd_ne ne.symm]; exact nx
  exact ⟨w1.mutable nx1 ⟨dx, [], upd_same, rfl, .nil⟩, (Step.new nd).trans (.mutable w1 nx1)⟩
theorem make_go {S : Addr → Prop} {M : Mem} {H : Hp} {P : QD} {Q : VK} {vs : List V} {ds : List D} {x dx : Addr} (w : Wo S M H) (h : DtA S H vs ds) (p : rMake C sp ds M P) (k : AtE S M H P Q) (nx : H x = none) (nd : H dx = none) (ne : dx ≠ x) :
    lift sp (.ref x :: vs) (upd (upd H dx (.own x)) x (.ins C dx [])) (fun v H2 => v = .non ∧ Q (.ref x) H2) E := by
  obtain ⟨w1, t1⟩ := new_ins (C := C) w nx nd ne
  refine ⟨_, _, _, _, w1, .cons (.ptr x) (dtA_step w t1 _ h), p x (w.fresh nx), fun d S2 M2 v H2 q t2 w2 hv => ?_⟩
  obtain ⟨rfl, q⟩ := q
  cases hv
  exact ⟨rfl, k _ S2 M2 _ H2 q (t1.trans t2) w2 (.ptr x)⟩
theorem makeF_go {S : Addr → Prop} {M : Mem} {H : Hp} {P : QD} {Q : VK} {vs : List V} {ds : List D} {x dx : Addr} (w : Wo S M H) (h : DtA S H vs ds) (p : rMakeF C sp ds M P) (k : AtE S M H P Q) (nx : H x = none) (nd : H dx = none) (ne : dx ≠ x) :
    liftF sp (.ref x :: vs) (upd (upd H dx (.own x)) x (.ins C dx [])) (fun v H2 => v = .non ∧ Q (.ref x) H2) E := by
  obtain ⟨w1, t1⟩ := new_ins (C := C) w nx nd ne
  refine ⟨_, _, _, _, w1, .cons (.ptr x) (dtA_step w t1 _ h), p x (w.fresh nx), fun d S2 M2 v H2 q t2 w2 hv => ?_⟩
  obtain ⟨rfl, fs, hm, q⟩ := q
  cases hv
  obtain ⟨sx, dx', gs, ha, hn, hs⟩ := w2.mem x _ hm
  have t3 := (t1.trans t2).trans (Step.freeze (S := S2) (H := H2) hm)
  exact ⟨rfl, k _ _ _ _ H2 q t3 w2.freeze (.ins (fun z => z.2 rfl) ha hn (dtA_freeze hs))⟩
instance pu_make [A : PuA t dt] : PuE (tMake C (lift sp) [] E t) (dCB (rMake C sp) dt) := ⟨fun S M σ δ H P Q w e h k =>
  A.run S M σ δ H _ _ w e h fun ds S1 M1 vs H1 p1 t1 w1 h1 x dx nx nd ne => by
    rw [List.append_nil]
    exact make_go w1 h1 p1 (k.go t1) nx nd ne⟩
instance pu_makeF [A : PuA t dt] : PuE (tMake C (liftF sp) [] E t) (dCB (rMakeF C sp) dt) := ⟨fun S M σ δ H P Q w e h k =>
  A.run S M σ δ H _ _ w e h fun ds S1 M1 vs H1 p1 t1 w1 h1 x dx nx nd ne => by
    rw [List.append_nil]
    exact makeF_go w1 h1 p1 (k.go t1) nx nd ne⟩
def d3210 : List D → List D := pk3_2_1_0
def d10 : List D → List D := pk1_0
def d0 : List D → List D := pk0
instance pu_makeF3210 [B : PuA tk dk] : PuE (tMakeK C 0 4 (liftF sp) (fun us ws => us ++ pk3_2_1_0 ws) E tNil tk) (dMakeK (rMakeF C sp) d3210 4 dk) := ⟨fun S M σ δ H P Q w e h k =>
  B.run S M σ δ H _ _ w e h fun es S2 M2 zs H2 p2 t2 w2 h2 => ⟨rfl, by rw [h2.length]; exact p2.1, fun x dx nx nd ne => makeF_go w2 (pk3_2_1_0_dt h2) p2.2 (k.go t2) nx nd ne⟩⟩
instance pu_makeF10 [B : PuA tk dk] : PuE (tMakeK C 0 2 (liftF sp) (fun us ws => us ++ pk1_0 ws) E tNil tk) (dMakeK (rMakeF C sp) d10 2 dk) := ⟨fun S M σ δ H P Q w e h k =>
  B.run S M σ δ H _ _ w e h fun es S2 M2 zs H2 p2 t2 w2 h2 => ⟨rfl, by rw [h2.length]; exact p2.1, fun x dx nx nd ne => makeF_go w2 (pk1_0_dt h2) p2.2 (k.go t2) nx nd ne⟩⟩
instance pu_make0 [B : PuA tk dk] : PuE (tMakeK C 0 1 (lift sp) (fun us ws => us ++ pk0 ws) E tNil tk) (dMakeK (rMake C sp) d0 1 dk) := ⟨fun S M σ δ H P Q w e h k =>
  B.run S M σ δ H _ _ w e h fun es S2 M2 zs H2 p2 t2 w2 h2 => ⟨rfl, by rw [h2.length]; exact p2.1, fun x dx nx nd ne => make_go w2 h2 p2.2 (k.go t2) nx nd ne⟩⟩
end
def potD (p : Addr) : D := .opq p (potO p)
def spDrawD : DC := fun ds M P => ∃ p n, ds = [potD p, .int n] ∧ (0 < n ∧ n < 1073741824) ∧ ∀ r, 0 ≤ r → r < n → P (.int r) M
theorem draw_lift : ∀ vs H Q E, lift spDrawD vs H Q E → spDraw vs H Q E := by
  rintro vs H Q E ⟨S, M, ds, P, w, h, ⟨p, n, rfl, hn, q⟩, k⟩
  match vs, h with
  | [_, _], .cons (.opq np hp) (.cons (.int _) .nil) => exact ⟨p, n, rfl, hp, hn, fun r H' e h0 h1 => k _ S M _ H' (q r h0 h1) (.same e) (w.same e) (.int r)⟩
theorem wo_none (H : Hp) : Wo N0 (fun _ => none) H := ⟨fun _ h => h.elim, fun _ _ h => by cases h⟩
section
variable {G : Mem → Prop} {g : DG} {b : DS} {nx : QS} {rt : QD} {xs : List D} {δ : Dl} {M : Mem}
theorem loop_inv (I : Nat → QS) (h0 : I 0 δ M)
    (step : ∀ i x δ M (Kc : QS), xs[i]? = some x → I i δ M → (∀ δ' M', G M' → I (i + 1) δ' M' → G M' ∧ Kc δ' M') → g x δ M fun δ1 M1 => b (fun δ' M' => G M' ∧ Kc δ' M') rt nx (fun δ' M' => G M' ∧ Kc δ' M') δ1 M1)
    (fin : ∀ δ M, I xs.length δ M → nx δ M) : dLoop G g b nx rt xs δ M := by
  have key : ∀ k i δ M, i + k = xs.length → I i δ M → dLoop G g b nx rt (xs.drop i) δ M := by
    intro k
    induction k with
    | zero =>
      intro i δ M e h
      have : i = xs.length := by omega
      subst this
      rw [List.drop_length]
      exact fin δ M h
    | succ k ih =>
      intro i δ M e h
      have hx := at_some (xs := xs) (i := i) (by omega)
      rw [drop_cons hx]
      exact step i _ δ M (dLoop G g b nx rt (xs.drop (i + 1))) hx h fun δ' M' g' h' => ⟨g', ih (i + 1) δ' M' (by omega) h'⟩
  exact key xs.length 0 δ M (by omega) h0
variable {t : DT} {a : DE} {vs : List Nat} {P : QD}
theorem gather_inv (I : Nat → List D → Mem → Prop) (h0 : I 0 [] M)
    (step : ∀ i x acc M (Ky : QD) (Kn : Mem → Prop), xs[i]? = some x → I i acc M → (∀ y M', G M' → I (i + 1) (acc ++ [y]) M' → G M' ∧ Ky y M') → (∀ M', G M' → I (i + 1) acc M' → G M' ∧ Kn M') →
      g x (wipeD δ vs) M fun δ1 M1 => t δ1 M1 fun b M2 => if b = true then a δ1 M2 fun y M3 => G M3 ∧ Ky y M3 else G M2 ∧ Kn M2)
    (fin : ∀ acc M, I xs.length acc M → P (.lst acc) M) : dGather G g t a vs δ P xs [] M := by
  have key : ∀ k i acc M, i + k = xs.length → I i acc M → dGather G g t a vs δ P (xs.drop i) acc M := by
    intro k
    induction k with
    | zero =>
      intro i acc M e h
      have : i = xs.length := by omega
      subst this
      rw [List.drop_length]
      exact fin acc M h
    | succ k ih =>
      intro i acc M e h
      have hx := at_some (xs := xs) (i := i) (by omega)
      rw [drop_cons hx]
      exact step i _ acc M (fun y M' => dGather G g t a vs δ P (xs.drop (i + 1)) (acc ++ [y]) M') (dGather G g t a vs δ P (xs.drop (i + 1)) acc) hx h (fun y M' g' h' => ⟨g', ih (i + 1) _ M' (by omega) h'⟩) fun M' g' h' => ⟨g', ih (i + 1) _ M' (by omega) h'⟩
  exact key xs.length 0 [] M (by omega) h0
/-- [f(x) for x in xs if p(x)] -/
theorem gather_map {f : D → D} {p : D → Bool}
    (step : ∀ x, x ∈ xs → ∀ (Ky : QD) (Kn : Mem → Prop), (p x = true → Ky (f x) M) → (p x = false → Kn M) → g x (wipeD δ vs) M fun δ1 M1 => t δ1 M1 fun b M2 => if b = true then a δ1 M2 fun y M3 => Ky y M3 else Kn M2)
    (hG : G M) (fin : P (.lst ((xs.filter p).map f)) M) : dGather G g t a vs δ P xs [] M := by
  refine gather_inv (fun i acc M' => M' = M ∧ acc = ((xs.take i).filter p).map f) ⟨rfl, rfl⟩ ?_ ?_
  · rintro i x acc M' Ky Kn hx ⟨rfl, rfl⟩ hy hn
    refine step x (List.mem_of_getElem? hx) (fun y M3 => G M3 ∧ Ky y M3) (fun M3 => G M3 ∧ Kn M3) (fun hp => hy _ _ hG ⟨rfl, ?_⟩) (fun hp => hn _ hG ⟨rfl, ?_⟩)
    · rw [take_snoc hx, List.filter_append, List.map_append]
      simp [hp]
    · rw [take_snoc hx, List.filter_append, List.map_append]
      simp [hp]
  · rintro acc M' ⟨rfl, rfl⟩
    rw [List.take_length]
    exact fin
/-- [f(x) for x in xs] -/
theorem gather_all {f : D → D}
    (step : ∀ x, x ∈ xs → ∀ (Ky : QD), Ky (f x) M → g x (wipeD δ vs) M fun δ1 M1 => a δ1 M1 Ky)
    (hG : G M) (fin : P (.lst (xs.map f)) M) : dGather G g dYes a vs δ P xs [] M := by
  refine gather_inv (fun i acc M' => M' = M ∧ acc = (xs.take i).map f) ⟨rfl, rfl⟩ ?_ ?_
  · rintro i x acc M' Ky Kn hx ⟨rfl, rfl⟩ hy hn
    refine step x (List.mem_of_getElem? hx) (fun y M3 => G M3 ∧ Ky y M3) (hy _ _ hG ⟨rfl, ?_⟩)
    rw [take_snoc hx, List.map_append]
    rfl
  · rintro acc M' ⟨rfl, rfl⟩
    rw [List.take_length]
    exact fin
end
section
variable {δ : Dl} {M : Mem} {P : QD} {a b c : DE} {t : DA} {s u : DS} {nx bk ct : QS} {rt : QD} {g : DG} {k k' : DT} {r r' : DR} {PB : Bool → Mem → Prop} {PA : List D → Mem → Prop} {i j : Nat}
theorem x_var {d : D} (h : δ[i]? = some (some d)) (p : P d M) : dVar i δ M P := ⟨d, h, p⟩
theorem x_c {d : D} (p : P d M) : dC d δ M P := p
theorem x_op (h : a δ M fun x M1 => b δ M1 fun y M2 => r x y M2 P) : dOp r a b δ M P := h
theorem x_nil (p : PA [] M) : dNil δ M PA := p
theorem x_cons (h : a δ M fun x M1 => t δ M1 fun xs M2 => PA (x :: xs) M2) : dCons a t δ M PA := h
theorem x_tup (h : t δ M fun xs M1 => xs.length ≤ sizeLine ∧ P (.tup xs) M1) : dTup t δ M P := h
theorem x_lst (h : t δ M fun xs M1 => xs.length ≤ sizeLine ∧ P (.lst xs) M1) : dLst t δ M P := h
theorem x_lstM (h : t δ M fun xs M1 => xs.length ≤ sizeLine ∧ ∀ a, M1 a = none → P (.ptr a) (mset M1 a (.lst xs))) : dLstM t δ M P := h
theorem x_if (h : k δ M fun q M1 => if q = true then a δ M1 P else b δ M1 P) : dIf k a b δ M P := h
theorem x_B (h : a δ M fun x M1 => ∃ b, x = .bl b ∧ PB b M1) : dB a δ M PB := h
theorem x_and (h : k δ M fun c M1 => if c = true then k' δ M1 PB else PB false M1) : dAnd k k' δ M PB := h
theorem x_or (h : k δ M fun c M1 => if c = true then PB true M1 else k' δ M1 PB) : dOr k k' δ M PB := h
theorem x_not (h : k δ M fun c M1 => PB (!c) M1) : dNot k δ M PB := h
theorem x_andV (h : a δ M fun x M1 => ∃ c, x = .bl c ∧ if c = true then b δ M1 P else P (.bl false) M1) : dAndV a b δ M P := h
theorem x_orV (h : a δ M fun x M1 => ∃ c, x = .bl c ∧ if c = true then P (.bl true) M1 else b δ M1 P) : dOrV a b δ M P := h
theorem x_notV (h : a δ M fun x M1 => ∃ c, x = .bl c ∧ P (.bl (!c)) M1) : dNotV a δ M P := h
theorem x_chain (h : a δ M fun x M1 => b δ M1 fun y M2 => r x y M2 fun z M3 => ∃ k, z = .bl k ∧ if k = true then c δ M3 fun w M4 => r' y w M4 P else P (.bl false) M3) : dChain r r' a b c δ M P := h
theorem x_cb {q : DC} (h : t δ M fun xs M1 => q xs M1 P) : dCB q t δ M P := h
theorem x_then {q : D → Mem → QD → Prop} (h : a δ M fun x M1 => q x M1 P) : dThen a q δ M P := h
theorem x_star (h : a δ M fun x M1 => ∃ xs, (isTF x xs ∨ x = .lst xs ∨ ∃ p, x = .ptr p ∧ M1 p = some (.lst xs)) ∧ t δ M1 fun ys M2 => PA (xs ++ ys) M2) : dStar a t δ M PA := h
theorem x_part {PO : Option Int → Mem → Prop} (h : a δ M fun x M1 => ∃ i, x = .int i ∧ PO (some i) M1) : dPart a δ M PO := h
theorem x_noPart {PO : Option Int → Mem → Prop} (h : PO none M) : dNoPart δ M PO := h
theorem x_sl {l h : DO} (q : a δ M fun x M1 => l δ M1 fun lo M2 => h δ M2 fun hi M3 => rSl1 x lo hi M3 P) : dSl a l h δ M P := q
theorem x_fld {K : PySem.W.Frag} {f : Str} (h : a δ M fun x M1 => rFld1 K f x M1 P) : dFld K a f δ M P := h
theorem x_fldI {K : PySem.W.Frag} {C : Addr} {ns : List Str} {ds : List D} {f : Str} {d : D} (k : Nat) (l1 : ns[k]? = some f) (l2 : ds[k]? = some d) (cl : Cls K C) (n : NoAttr K C f) (l0 : ns.Nodup) (p : P d M) : rFld1 K f (.ins C ns ds) M P := ⟨C, ns, ds, d, .inl rfl, cl, n, ⟨k, l0, l1, l2⟩, p⟩
theorem x_fldQ {K : PySem.W.Frag} {C p : Addr} {fs : List (Str × D)} {f : Str} {d : D} (k : Nat) (hm : M p = some (.ins C fs)) (l1 : (fs.map (·.1))[k]? = some f) (l2 : (fs.map (·.2))[k]? = some d) (cl : Cls K C) (n : NoAttr K C f) (l0 : (fs.map (·.1)).Nodup) (q : P d M) : rFld1 K f (.ptr p) M P :=
  ⟨C, _, _, d, .inr ⟨p, fs, rfl, hm, rfl, rfl⟩, cl, n, ⟨k, l0, l1, l2⟩, q⟩
theorem x_sfld {K : PySem.W.Frag} {f : Str} (h : b δ M fun y M1 => a δ M1 fun x M2 => rPut1 K f x y M2 (nx δ)) : sFldD K a b f nx rt bk ct δ M := h
theorem x_sfldP {K : PySem.W.Frag} {f : Str} {p C : Addr} {fs : List (Str × D)} {y : D} {PM : Mem → Prop} (hm : M p = some (.ins C fs)) (c : Cls K C) (n : NoAttr K C f) (hl : fs.length < 1000) (q : PM (mset M p (.ins C (putD f y fs)))) : rPut1 K f (.ptr p) y M PM := ⟨p, C, fs, rfl, hm, c, n, hl, q⟩
theorem x_sfldQ {K : PySem.W.Frag} {f : Str} {p C : Addr} {fs : List (Str × D)} {y : D} {PM : Mem → Prop} (c : Cls K C) (n : NoAttr K C f) (hl : fs.length < 1000) (q : PM (mset M p (.ins C (putD f y fs)))) : rPut1 K f (.ptr p) y (mset M p (.ins C fs)) PM := ⟨p, C, fs, rfl, mset_same, c, n, hl, by rw [mset_set]; exact q⟩
theorem x_neg (h : a δ M fun x M1 => ∃ i, x = .int i ∧ P (.int (-i)) M1) : dNeg a δ M P := h
theorem x_join (h : a δ M fun x M1 => (∃ z, x = .str z) ∧ b δ M1 fun y M2 => rJoin1 x y M2 P) : dJoin1 a b δ M P := h
theorem x_append (h : a δ M fun x M1 => ∃ l, x = .ptr l ∧ (∃ xs, M1 l = some (.lst xs)) ∧ t δ M1 fun ys M2 => ∃ xs y, ys = [y] ∧ M2 l = some (.lst xs) ∧ xs.length < sizeLine ∧ P .non (mset M2 l (.lst (xs ++ [y])))) : dAppend a t δ M P := h
theorem x_lstRg {q : DRg} (h : q δ M fun a b M1 => RgOk a b ∧ P (.lst (rgD a b)) M1) : dLstRg q δ M P := h
theorem x_rg1 {PR : Int → Int → Mem → Prop} (h : a δ M fun x M1 => ∃ n, x = .int n ∧ PR 0 n M1) : dRg1 a δ M PR := h
theorem x_rg2 {PR : Int → Int → Mem → Prop} (h : a δ M fun x M1 => b δ M1 fun y M2 => ∃ i j, x = .int i ∧ y = .int j ∧ PR i j M2) : dRg2 a b δ M PR := h
theorem x_revL (h : a δ M fun x M1 => ∃ xs, isLs M1 x xs ∧ P (.lst xs.reverse) M1) : dRevL a δ M P := h
theorem x_joinF {ds : List DE} (h : dJs ds Str.empty δ M fun out M1 => P (.str out) M1) : dJoin ds δ M P := h
theorem x_call {sp : DC} (h : t δ M fun ds M1 => sp ds M1 P) : dCall sp t δ M P := h
theorem x_callN {n m : Nat} {sp : DC} {f : List D → List D → List D} {tk : DA} (h : t δ M fun ds M1 => tk δ M1 fun es M2 => ds.length = n ∧ es.length = m ∧ sp (f ds es) M2 P) : dCallN n m sp f t tk δ M P := h
theorem x_meth {C : Addr} {m : Str} {sp : DC} (h : a δ M fun x M1 => (∃ ns xs, isIn M1 x C ns xs ∧ m ∉ ns) ∧ t δ M1 fun ds M2 => sp (x :: ds) M2 P) : dMeth C m sp a t δ M P := h
theorem x_makeK {q : DC} {f : List D → List D} {n : Nat} (h : t δ M fun es M1 => es.length = n ∧ q (f es) M1 P) : dMakeK q f n t δ M P := h
theorem x_lc {di : DI} {vs : List Nat} (h : di δ M fun G xs M1 => G M1 ∧ xs.length ≤ 16777216 ∧ dGather G g k a vs δ P xs [] M1) : dLc di g k a vs δ M P := h
theorem x_yes (h : PB true M) : dYes δ M PB := h
theorem x_next (h : nx δ M) : sNext nx rt bk ct δ M := h
theorem x_seq (h : s (fun δ1 M1 => u nx rt bk ct δ1 M1) rt bk ct δ M) : sSeq s u nx rt bk ct δ M := h
theorem x_break (h : bk δ M) : sBreak nx rt bk ct δ M := h
theorem x_cont (h : ct δ M) : sCont nx rt bk ct δ M := h
theorem x_drop (h : a δ M fun _ M1 => nx δ M1) : sDrop a nx rt bk ct δ M := h
theorem x_ret (h : a δ M rt) : sRet a nx rt bk ct δ M := h
theorem x_retN (h : rt .non M) : sRetN nx rt bk ct δ M := h
theorem x_ifS (h : k δ M fun q M1 => if q = true then s nx rt bk ct δ M1 else u nx rt bk ct δ M1) : sIf k s u nx rt bk ct δ M := h
theorem x_asg (h : a δ M fun x M1 => g x δ M1 nx) : sAsg a g nx rt bk ct δ M := h
theorem x_gN {d : D} (h : nx (δ.set i (some d)) M) : dgN i d δ M nx := h
theorem x_par (h : t δ M fun xs M1 => ∃ x y, xs = [x, y] ∧ nx ((δ.set i (some x)).set j (some y)) M1) : sPar i j t nx rt bk ct δ M := h
theorem x_aug {d : D} (h : δ[i]? = some (some d)) (q : a δ M fun y M1 => r d y M1 fun z M2 => nx (δ.set i (some z)) M2) : sAug i a r nx rt bk ct δ M := ⟨d, h, q⟩
theorem x_for {di : DI} (h : di δ M fun G xs M1 => G M1 ∧ dLoop G g s nx rt xs δ M1) : sFor di g s nx rt bk ct δ M := h
theorem x_gT {n : Nat} {gs : DGs} {xs : List D} (h : xs.length = n) (q : gs xs δ M nx) : dgT n gs (.tup xs) δ M nx := ⟨xs, rfl, h, q⟩
theorem x_gs0 (h : nx δ M) : dgsNil [] δ M nx := ⟨rfl, h⟩
theorem x_gs1 {gs : DGs} {d : D} {ds : List D} (h : g d δ M fun δ1 M1 => gs ds δ1 M1 nx) : dgsCons g gs (d :: ds) δ M nx := ⟨d, ds, rfl, h⟩
theorem x_bl {p : Bool → Prop} {c : Bool} (h : p c) : ∃ b, D.bl c = D.bl b ∧ p b := ⟨c, rfl, h⟩
theorem x_int {p : Int → Prop} {c : Int} (h : p c) : ∃ b, D.int c = D.int b ∧ p b := ⟨c, rfl, h⟩
theorem x_int2 {p : Int → Int → Prop} {c d : Int} (h : p c d) : ∃ a b, D.int c = D.int a ∧ D.int d = D.int b ∧ p a b := ⟨c, d, rfl, rfl, h⟩
theorem x_str0 {z : Str} {p : Prop} (h : p) : (∃ y, D.str z = D.str y) ∧ p := ⟨⟨z, rfl⟩, h⟩
theorem x_two {p : D → D → Prop} {c d : D} (h : p c d) : ∃ a b, [c, d] = [a, b] ∧ p a b := ⟨c, d, rfl, h⟩
theorem x_tr {p : Prop} (h : p) : True ∧ p := ⟨trivial, h⟩
theorem x_addI {x y : Int} (h : P (.int (x + y)) M) : rAdd1 (.int x) (.int y) M P := h
theorem x_I1 {f : Int → Int → D} {x y : Int} (h : P (f x y) M) : V.rI1 f (.int x) (.int y) M P := ⟨x, y, rfl, rfl, h⟩
theorem x_IC1 {C : Int → Int → Prop} {f : Int → Int → D} {x y : Int} (h : C x y ∧ P (f x y) M) : rIC1 C f (.int x) (.int y) M P := ⟨x, y, rfl, rfl, h⟩
theorem x_ltI {x y : Int} (h : P (.bl (decide (x < y))) M) : rLt1 (.int x) (.int y) M P := h
theorem x_eqI {x y : Int} (h : P (.bl (decide (x = y))) M) : rEq1 (.int x) (.int y) M P := h
theorem x_eqS {x y : Str} (h : P (.bl (decide (x = y))) M) : rEq1 (.str x) (.str y) M P := h
theorem x_neI {x y : Int} (h : P (.bl (!decide (x = y))) M) : rNe1 (.int x) (.int y) M P := h
theorem x_neS {x y : Str} (h : P (.bl (!decide (x = y))) M) : rNe1 (.str x) (.str y) M P := h
theorem x_isN {x : D} (h : P (.bl (isNon x)) M) : rIsN1 x .non M P := ⟨rfl, h⟩
theorem x_notN {x : D} (h : P (.bl (!isNon x)) M) : rNotN1 x .non M P := ⟨rfl, h⟩
theorem x_isB {x y : Bool} (h : P (.bl (decide (x = y))) M) : rIsB1 (.bl x) (.bl y) M P := ⟨x, y, rfl, rfl, h⟩
theorem x_notB {x y : Bool} (h : P (.bl (!decide (x = y))) M) : rNotB1 (.bl x) (.bl y) M P := ⟨x, y, rfl, rfl, h⟩
theorem x_ixT {xs : List D} {n : Int} {d : D} (h : atI xs n = some d) (p : P d M) : rIx1 (.tup xs) (.int n) M P := ⟨xs, d, .inr (.inl rfl), h, p⟩
theorem x_ixL {xs : List D} {n : Int} {d : D} (h : atI xs n = some d) (p : P d M) : rIx1 (.lst xs) (.int n) M P := ⟨xs, d, .inl rfl, h, p⟩
theorem x_lenT {xs : List D} (p : P (.int xs.length) M) : rLen1 [.tup xs] M P := ⟨_, rfl, xs, .inr (.inl rfl), p⟩
theorem x_lenL {xs : List D} (p : P (.int xs.length) M) : rLen1 [.lst xs] M P := ⟨_, rfl, xs, .inl rfl, p⟩
theorem x_lenS {z : Str} (p : z.length ≤ sizeLine ∧ P (.int z.length) M) : rLen1 [.str z] M P := ⟨_, rfl, p⟩
theorem x_listL {xs : List D} (p : P (.lst xs) M) : rList1 [.lst xs] M P := ⟨_, rfl, xs, .inl rfl, p⟩
theorem x_listT {xs : List D} (p : P (.lst xs) M) : rList1 [.tup xs] M P := ⟨_, rfl, xs, .inr (.inl rfl), p⟩
theorem x_tupL {xs : List D} (p : P (.tup xs) M) : kTup1 (.lst xs) M P := ⟨xs, .inl rfl, p⟩
theorem x_tupT {xs : List D} (p : P (.tup xs) M) : kTup1 (.tup xs) M P := ⟨xs, .inr (.inl rfl), p⟩
theorem x_int1 {f : Int → D} {n : Int} (p : P (f n) M) : rI11 f [.int n] M P := ⟨n, rfl, p⟩
theorem x_int21 {f : Int → Int → D} {n m : Int} (p : P (f n m) M) : rI21 f [.int n, .int m] M P := ⟨n, m, rfl, p⟩
theorem x_slT {xs : List D} {lo hi : Option Int} (p : P (.tup (cutG xs lo hi)) M) : rSl1 (.tup xs) lo hi M P := p
theorem x_slL {xs : List D} {lo hi : Option Int} (p : P (.lst (cutG xs lo hi)) M) : rSl1 (.lst xs) lo hi M P := ⟨xs, .inl rfl, p⟩
theorem x_addL {xs ys : List D} (p : xs.length + ys.length ≤ sizeLine ∧ P (.lst (xs ++ ys)) M) : rAdd1 (.lst xs) (.lst ys) M P := ⟨xs, ys, .inl rfl, .inl rfl, p.1, p.2⟩
theorem x_all {bs : List Bool} (p : P (.bl (bs.all id)) M) : rAll1 [.lst (bs.map D.bl)] M P := ⟨_, bs, rfl, .inl rfl, p⟩
theorem x_diL {PI : (Mem → Prop) → List D → Mem → Prop} {xs : List D} (h : PI (fun _ => True) xs M) : rDiL (.lst xs) M PI := .inl ⟨xs, rfl, h⟩
theorem x_diP {PI : (Mem → Prop) → List D → Mem → Prop} {p : Addr} {xs : List D} (hm : M p = some (.lst xs)) (h : PI (fun M => M p = some (.lst xs)) xs M) : rDiL (.ptr p) M PI := .inr ⟨p, xs, rfl, hm, h⟩
theorem x_iL {PI : (Mem → Prop) → List D → Mem → Prop} (h : a δ M fun x M1 => rDiL x M1 PI) : diL a δ M PI := h
theorem x_iT {PI : (Mem → Prop) → List D → Mem → Prop} (h : a δ M fun x M1 => ∃ xs, isTF x xs ∧ PI (fun _ => True) xs M1) : diT a δ M PI := h
theorem x_iS {PI : (Mem → Prop) → List D → Mem → Prop} (h : a δ M fun x M1 => ∃ z, x = .str z ∧ PI (fun _ => True) ((cd z).map sgn) M1) : diS a δ M PI := h
theorem x_iR1 {PI : (Mem → Prop) → List D → Mem → Prop} (h : t δ M fun xs M1 => ∃ j : Int, xs = [.int j] ∧ -(2 ^ 62) ≤ j ∧ j < 2 ^ 62 ∧ PI (fun _ => True) (rgD 0 j) M1) : diR1 t δ M PI := h
theorem x_iR2 {PI : (Mem → Prop) → List D → Mem → Prop} (h : t δ M fun xs M1 => ∃ i j : Int, xs = [.int i, .int j] ∧ (-(2 ^ 62) ≤ i ∧ i < 2 ^ 62 ∧ -(2 ^ 62) ≤ j ∧ j < 2 ^ 62) ∧ PI (fun _ => True) (rgD i j) M1) : diR2 t δ M PI := h
theorem x_tfE {p : List D → Prop} {xs : List D} (h : p xs) : ∃ ys, isTF (D.tup xs) ys ∧ p ys := ⟨xs, rfl, h⟩
theorem x_tfF {p : List D → Prop} {xs : List D} (h : p xs) : ∃ ys, isTF (D.ftp xs) ys ∧ p ys := ⟨xs, rfl, h⟩
theorem x_tupE {p : List D → Prop} {xs : List D} (h : p xs) : ∃ ys, D.tup xs = .tup ys ∧ p ys := ⟨xs, rfl, h⟩
theorem x_strE {p : Str → Prop} {xs : Str} (h : p xs) : ∃ ys, D.str xs = .str ys ∧ p ys := ⟨xs, rfl, h⟩
theorem x_r1 {p : Int → Prop} {n : Int} (h : p n) : ∃ j : Int, [D.int n] = [.int j] ∧ p j := ⟨n, rfl, h⟩
theorem x_r2 {p : Int → Int → Prop} {n m : Int} (h : p n m) : ∃ i j : Int, [D.int n, D.int m] = [.int i, .int j] ∧ p i j := ⟨n, m, rfl, h⟩
theorem x_ite (c : Prop) [Decidable c] {A B : Prop} (h1 : c → A) (h2 : ¬ c → B) : if decide c = true then A else B := by
  by_cases z : c
  · rw [decide_eq_true z, if_pos rfl]; exact h1 z
  · rw [decide_eq_false z, if_neg Bool.false_ne_true]; exact h2 z
theorem x_iten {c : Prop} [Decidable c] {A B : Prop} (h1 : ¬ c → A) (h2 : c → B) : if (!decide c) = true then A else B := by
  by_cases z : c
  · rw [decide_eq_true z]; exact h2 z
  · rw [decide_eq_false z]; exact h1 z
theorem x_iteT {c : Prop} [Decidable c] {A B : Prop} (z : c) (h : A) : if decide c = true then A else B := by rw [decide_eq_true z, if_pos rfl]; exact h
theorem x_iteF {c : Prop} [Decidable c] {A B : Prop} (z : ¬ c) (h : B) : if decide c = true then A else B := by rw [decide_eq_false z, if_neg Bool.false_ne_true]; exact h
theorem x_itenT {c : Prop} [Decidable c] {A B : Prop} (z : ¬ c) (h : A) : if (!decide c) = true then A else B := by rw [decide_eq_false z]; exact h
theorem x_itenF {c : Prop} [Decidable c] {A B : Prop} (z : c) (h : B) : if (!decide c) = true then A else B := by rw [decide_eq_true z]; exact h
theorem x_true {A B : Prop} (h : A) : if true = true then A else B := by rw [if_pos rfl]; exact h
theorem x_false {A B : Prop} (h : B) : if false = true then A else B := by rw [if_neg Bool.false_ne_true]; exact h
theorem x_nfalse {A B : Prop} (h : A) : if (!false) = true then A else B := by simpa using h
theorem x_ntrue {A B : Prop} (h : B) : if (!true) = true then A else B := by simpa using h
end
end V
namespace V
open PySem PySem.Spec PyProof.Rows L2 U StX
def enumD (xs : List D) : List D := xs.mapIdx fun i d => .tup [.int (i : Nat), d]
def zipD (xs ys : List D) : List D := (xs.zip ys).map fun p => .tup [p.1, p.2]
def diET (a : DA) : DI := fun δ M P => a δ M fun vs M1 => ∃ x xs, vs = [x] ∧ isTF x xs ∧ P (fun _ => True) (enumD xs) M1
def diE (a : DA) : DI := fun δ M P => a δ M fun vs M1 => ∃ xs, vs = [.lst xs] ∧ P (fun _ => True) (enumD xs) M1
def diZ (a : DA) : DI := fun δ M P => a δ M fun vs M1 => ∃ xs ys, vs = [.lst xs, .lst ys] ∧ P (fun _ => True) (zipD xs ys) M1
theorem enumD_len (xs : List D) : (enumD xs).length = xs.length := by simp [enumD]
theorem enumD_get {xs : List D} {i : Nat} {d : D} (h : xs[i]? = some d) : (enumD xs)[i]? = some (.tup [.int (i : Nat), d]) := by simp [enumD, h]
theorem zipD_len (xs ys : List D) : (zipD xs ys).length = min xs.length ys.length := by simp [zipD]
theorem zipD_get {xs ys : List D} {i : Nat} {d e : D} (h : xs[i]? = some d) (k : ys[i]? = some e) : (zipD xs ys)[i]? = some (.tup [d, e]) := by
  unfold zipD
  have e1 : (xs.zip ys)[i]? = some (d, e) := List.getElem?_zip_eq_some.mpr ⟨h, k⟩
  rw [List.getElem?_map, e1]
  rfl
section
variable {K : PySem.W.Frag} {tt : TA} {dd : DA}
instance pu_iET [A : PuA tt dd] : PuI (iEnumT K tt) (diET dd) := ⟨fun S M σ δ H P R w e h k =>
  A.run S M σ δ H _ _ w e h fun d S1 M1 v H1 p1 t1 w1 h1 => by
    obtain ⟨x, xs, rfl, hx, p1⟩ := p1
    match v, h1 with
    | [u], .cons h2 .nil =>
      obtain ⟨a, vs0, rfl, n0, ha0, hs0⟩ := tf_get h2 hx
      have st := stay_tf w1 h2 hx
      obtain ⟨vs, ha, hs⟩ := st _ _ _ .refl w1 trivial
      refine ⟨a, vs, rfl, Or.inl ha, k _ _ S1 M1 H1 _ p1 t1 w1 ⟨fun S' M' H' t w' _ => ?_, fun i S' M' H' hi t w' _ => ?_, fun i S' M' H' x H2 hi t w' _ y => ?_⟩⟩
      · obtain ⟨us, h3, h4⟩ := st _ _ _ t w' trivial
        exact ⟨us, Or.inl h3, by rw [enumD_len, h4.length]⟩
      · obtain ⟨us, h3, h4⟩ := st _ _ _ t w' trivial
        rw [enumD_len] at hi
        have hl := h4.length
        exact ⟨us, us[i], Or.inl h3, at_some (by omega)⟩
      · obtain ⟨us, h3, h4⟩ := st _ _ _ t w' trivial
        obtain ⟨T, x0, rfl, nT, rfl, q⟩ := y
        obtain ⟨d, e1, e2⟩ := h4.getV (q us (Or.inl h3))
        exact ⟨Same.new nT, _, enumD_get e1, .tup (w'.ns nT) upd_same (.cons (.int _) (.cons (e2.sm (Same.new nT)) .nil))⟩⟩
instance pu_iE [A : PuA tt dd] : PuI (iEnum K tt) (diE dd) := ⟨fun S M σ δ H P R w e h k =>
  A.run S M σ δ H _ _ w e h fun d S1 M1 v H1 p1 t1 w1 h1 => by
    obtain ⟨xs, rfl, p1⟩ := p1
    match v, h1 with
    | [.ref a], .cons h2 .nil =>
      have st := stay_lst w1 h2
      obtain ⟨vs, ha, hs⟩ := st _ _ _ .refl w1 trivial
      refine ⟨a, vs, rfl, SqL.of ha, k _ _ S1 M1 H1 _ p1 t1 w1 ⟨fun S' M' H' t w' _ => ?_, fun i S' M' H' hi t w' _ => ?_, fun i S' M' H' x H2 hi t w' _ y => ?_⟩⟩
      · obtain ⟨us, h3, h4⟩ := st _ _ _ t w' trivial
        exact ⟨us, SqL.of h3, by rw [enumD_len, h4.length]; exact Nat.le_refl _⟩
      · obtain ⟨us, h3, h4⟩ := st _ _ _ t w' trivial
        rw [enumD_len] at hi
        have hl := h4.length
        exact ⟨us, us[i], SqL.of h3, at_some (by omega)⟩
      · obtain ⟨us, h3, h4⟩ := st _ _ _ t w' trivial
        obtain ⟨T, x0, rfl, nT, rfl, q⟩ := y
        obtain ⟨d, e1, e2⟩ := h4.getV (q us (SqL.of h3))
        exact ⟨Same.new nT, _, enumD_get e1, .tup (w'.ns nT) upd_same (.cons (.int _) (.cons (e2.sm (Same.new nT)) .nil))⟩⟩
instance pu_iZ [A : PuA tt dd] : PuI (iZip K tt) (diZ dd) := ⟨fun S M σ δ H P R w e h k =>
  A.run S M σ δ H _ _ w e h fun d S1 M1 v H1 p1 t1 w1 h1 => by
    obtain ⟨xs, ys, rfl, p1⟩ := p1
    match v, h1 with
    | [.ref a, .ref b], .cons h2 (.cons h3 .nil) =>
      have sa := stay_lst w1 h2
      have sb := stay_lst w1 h3
      obtain ⟨vs, ha, hs⟩ := sa _ _ _ .refl w1 trivial
      obtain ⟨us, hb, ht⟩ := sb _ _ _ .refl w1 trivial
      refine ⟨a, b, vs, us, rfl, SqL.of ha, SqL.of hb, k _ _ S1 M1 H1 _ p1 t1 w1 ⟨fun S' M' H' t w' _ => ?_, fun i S' M' H' hi t w' _ => ?_, fun i S' M' H' x H2 hi t w' _ y => ?_⟩⟩
      · obtain ⟨vs, h4, h5⟩ := sa _ _ _ t w' trivial
        obtain ⟨us, h6, h7⟩ := sb _ _ _ t w' trivial
        refine ⟨vs, us, SqL.of h4, SqL.of h6, ?_⟩
        rw [zipD_len, h5.length, h7.length]
        omega
      · obtain ⟨vs, h4, h5⟩ := sa _ _ _ t w' trivial
        obtain ⟨us, h6, h7⟩ := sb _ _ _ t w' trivial
        rw [zipD_len] at hi
        have l1 := h5.length
        have l2 := h7.length
        exact ⟨vs, us, vs[i], us[i], SqL.of h4, SqL.of h6, at_some (by omega), at_some (by omega)⟩
      · obtain ⟨vs, h4, h5⟩ := sa _ _ _ t w' trivial
        obtain ⟨us, h6, h7⟩ := sb _ _ _ t w' trivial
        obtain ⟨T, x0, y0, rfl, nT, rfl, q1, q2⟩ := y
        obtain ⟨d, e1, e2⟩ := h5.getV (q1 vs (SqL.of h4))
        obtain ⟨d', e3, e4⟩ := h7.getV (q2 us (SqL.of h6))
        exact ⟨Same.new nT, _, zipD_get e1 e3, .tup (w'.ns nT) upd_same (.cons (e2.sm (Same.new nT)) (.cons (e4.sm (Same.new nT)) .nil))⟩⟩
end
section
variable {δ : Dl} {M : Mem} {t : DA} {PI : (Mem → Prop) → List D → Mem → Prop}
theorem x_tf1 {p : List D → Prop} {ys : List D} (h : p ys) : ∃ x xs, [D.tup ys] = [x] ∧ isTF x xs ∧ p xs := ⟨_, ys, rfl, rfl, h⟩
theorem x_tf1F {p : List D → Prop} {ys : List D} (h : p ys) : ∃ x xs, [D.ftp ys] = [x] ∧ isTF x xs ∧ p xs := ⟨_, ys, rfl, rfl, h⟩
theorem x_iET (h : t δ M fun vs M1 => ∃ x xs, vs = [x] ∧ isTF x xs ∧ PI (fun _ => True) (enumD xs) M1) : diET t δ M PI := h
theorem x_iE (h : t δ M fun vs M1 => ∃ xs, vs = [.lst xs] ∧ PI (fun _ => True) (enumD xs) M1) : diE t δ M PI := h
theorem x_iZ (h : t δ M fun vs M1 => ∃ xs ys, vs = [.lst xs, .lst ys] ∧ PI (fun _ => True) (zipD xs ys) M1) : diZ t δ M PI := h
theorem x_tup1 {p : List D → Prop} {xs : List D} (h : p xs) : ∃ ys, [D.tup xs] = [.tup ys] ∧ p ys := ⟨xs, rfl, h⟩
theorem x_lst1 {p : List D → Prop} {xs : List D} (h : p xs) : ∃ ys, [D.lst xs] = [.lst ys] ∧ p ys := ⟨xs, rfl, h⟩
theorem x_lst2 {p : List D → List D → Prop} {xs ys : List D} (h : p xs ys) : ∃ us vs, [D.lst xs, D.lst ys] = [.lst us, .lst vs] ∧ p us vs := ⟨xs, ys, rfl, h⟩
theorem x_starT {p : List D → Prop} {xs : List D} (h : p xs) : ∃ us, (isTF (D.tup xs) us ∨ D.tup xs = .lst us ∨ ∃ p, D.tup xs = .ptr p ∧ M p = some (.lst us)) ∧ p us := ⟨xs, .inl rfl, h⟩
theorem x_starF {p : List D → Prop} {xs : List D} (h : p xs) : ∃ us, (isTF (D.ftp xs) us ∨ D.ftp xs = .lst us ∨ ∃ p, D.ftp xs = .ptr p ∧ M p = some (.lst us)) ∧ p us := ⟨xs, .inl rfl, h⟩
theorem x_starL {p : List D → Prop} {xs : List D} (h : p xs) : ∃ us, (isTF (D.lst xs) us ∨ D.lst xs = .lst us ∨ ∃ p, D.lst xs = .ptr p ∧ M p = some (.lst us)) ∧ p us := ⟨xs, .inr (.inl rfl), h⟩
variable {P : QD}
theorem x_eqIN {x : Int} (h : P (.bl false) M) : rEq1 (.int x) .non M P := h
theorem x_eqNI {x : Int} (h : P (.bl false) M) : rEq1 .non (.int x) M P := h
theorem x_eqSN {x : Str} (h : P (.bl false) M) : rEq1 (.str x) .non M P := h
theorem x_eqNS {x : Str} (h : P (.bl false) M) : rEq1 .non (.str x) M P := h
theorem x_eqNN (h : P (.bl true) M) : rEq1 .non .non M P := h
theorem x_eqBB {x y : Bool} (h : P (.bl (decide (x = y))) M) : rEq1 (.bl x) (.bl y) M P := h
theorem x_neIN {x : Int} (h : P (.bl true) M) : rNe1 (.int x) .non M P := h
theorem x_neNI {x : Int} (h : P (.bl true) M) : rNe1 .non (.int x) M P := h
theorem x_neSN {x : Str} (h : P (.bl true) M) : rNe1 (.str x) .non M P := h
theorem x_neNS {x : Str} (h : P (.bl true) M) : rNe1 .non (.str x) M P := h
theorem x_neNN (h : P (.bl false) M) : rNe1 .non .non M P := h
theorem x_neBB {x y : Bool} (h : P (.bl (!decide (x = y))) M) : rNe1 (.bl x) (.bl y) M P := h
end
end V
namespace V
open PySem PySem.Spec PyProof.Rows L2 U StX
end V
namespace V
open PySem PySem.Spec PyProof.Rows L2 U StX RZ
section
variable {K : PySem.W.Frag} {tt : TA} {dd : DA}
def diZT (a : DA) : DI := fun δ M P => a δ M fun vs M1 => ∃ xs ys, vs = [.tup xs, .tup ys] ∧ P (fun _ => True) (zipD xs ys) M1
instance pu_iZT [A : PuA tt dd] : PuI (iZipA K tt) (diZT dd) := ⟨fun S M σ δ H P R w e h k =>
  A.run S M σ δ H _ _ w e h fun d S1 M1 v H1 p1 t1 w1 h1 => by
    obtain ⟨xs, ys, rfl, p1⟩ := p1
    match v, h1 with
    | [.ref a, .ref b], .cons h2 (.cons h3 .nil) =>
      have sa := stay_tup w1 h2
      have sb := stay_tup w1 h3
      obtain ⟨vs, ha, hs⟩ := sa _ _ _ .refl w1 trivial
      obtain ⟨us, hb, ht⟩ := sb _ _ _ .refl w1 trivial
      refine ⟨a, b, vs, us, rfl, .inr ⟨SqT.of ha, SqT.of hb, k _ _ S1 M1 H1 _ p1 t1 w1 ⟨fun S' M' H' t w' _ => ?_, fun i S' M' H' hi t w' _ => ?_, fun i S' M' H' x H2 hi t w' _ y => ?_⟩⟩⟩
      · obtain ⟨vs, h4, h5⟩ := sa _ _ _ t w' trivial
        obtain ⟨us, h6, h7⟩ := sb _ _ _ t w' trivial
        refine ⟨vs, us, SqT.of h4, SqT.of h6, ?_⟩
        rw [zipD_len, h5.length, h7.length]
        omega
      · obtain ⟨vs, h4, h5⟩ := sa _ _ _ t w' trivial
        obtain ⟨us, h6, h7⟩ := sb _ _ _ t w' trivial
        rw [zipD_len] at hi
        have l1 := h5.length
        have l2 := h7.length
        exact ⟨vs, us, vs[i], us[i], SqT.of h4, SqT.of h6, at_some (by omega), at_some (by omega)⟩
      · obtain ⟨vs, h4, h5⟩ := sa _ _ _ t w' trivial
        obtain ⟨us, h6, h7⟩ := sb _ _ _ t w' trivial
        obtain ⟨T, x0, y0, rfl, nT, rfl, q1, q2⟩ := y
        obtain ⟨d, e1, e2⟩ := h5.getV (q1 vs (SqT.of h4))
        obtain ⟨d', e3, e4⟩ := h7.getV (q2 us (SqT.of h6))
        exact ⟨Same.new nT, _, zipD_get e1 e3, .tup (w'.ns nT) upd_same (.cons (e2.sm (Same.new nT)) (.cons (e4.sm (Same.new nT)) .nil))⟩⟩
end
def sPar3 (i j l : Nat) (t : DA) : DS := fun nx _ _ _ δ M => t δ M fun xs M1 => ∃ x y z, xs = [x, y, z] ∧ nx (((δ.set i (some x)).set j (some y)).set l (some z)) M1
instance pu_par3 {i j l : Nat} {tt : TA} {dd : DA} [A : PuA tt dd] : PuS (tPar3 i j l tt) (sPar3 i j l dd) := ⟨fun S M σ δ H nx rt bk ct E w e h lk =>
  A.run S M σ δ H _ _ w e h fun d S1 M1 v H1 p1 t1 w1 h1 => by
    obtain ⟨x, y, z, rfl, p1⟩ := p1
    match v, h1 with
    | [u, v, q], .cons h2 (.cons h3 (.cons h4 .nil)) => exact ⟨u, v, q, rfl, lk.nx _ S1 M1 _ H1 p1 t1 w1 ((((e.step w t1).set h2).set h3).set h4)⟩⟩
theorem x_par3 {i j l : Nat} {t : DA} {nx bk ct : QS} {rt : QD} {δ : Dl} {M : Mem} (h : t δ M fun xs M1 => ∃ x y z, xs = [x, y, z] ∧ nx (((δ.set i (some x)).set j (some y)).set l (some z)) M1) : sPar3 i j l t nx rt bk ct δ M := h
theorem x_three {p : D → D → D → Prop} {c d e : D} (h : p c d e) : ∃ x y z, [c, d, e] = [x, y, z] ∧ p x y z := ⟨c, d, e, rfl, h⟩
def rMulS1 : DR := fun x y M P => ∃ z n, x = .str z ∧ y = .int n ∧ z.length ≤ 2000 ∧ 0 ≤ n ∧ n ≤ 8000 ∧ P (.str (Txt.mul z n)) M
instance op_mulS1 : OpD rMulS rMulS1 := ⟨fun S M H x y dx dy P Q w hx hy h k => by
  obtain ⟨z, n, rfl, rfl, h1, h2, h3, p⟩ := h
  cases hx; cases hy
  exact ⟨z, n, rfl, rfl, h1, h2, h3, k _ S M _ H p .refl w (.str _)⟩⟩
theorem mul_rep (c n : Nat) : cd (Txt.mul (one c) (n : Int)) = List.replicate n c := by
  have key : ∀ (k : Nat) (acc : Array Nat), ((List.replicate k #[c]).foldl (· ++ ·) acc).toList = acc.toList ++ List.replicate k c := by
    intro k
    induction k with
    | zero => intro acc; simp
    | succ k ih =>
      intro acc
      rw [List.replicate_succ, List.foldl_cons, ih, Array.toList_append, List.replicate_succ, List.append_assoc]
      rfl
  unfold Txt.mul
  split
  · rename_i h
    have : n = 0 := by omega
    subst this
    rfl
  · split
    · rename_i h
      have : n = 1 := by
        rw [Bool.or_eq_true] at h
        rcases h with h | h
        · have := eq_of_beq h
          omega
        · cases (show ((1 : Nat) == 0) = true from h)
      subst this
      rfl
    · rw [Int.toNat_natCast]
      have := key n #[]
      rw [List.nil_append] at this
      exact this
theorem x_iZT {δ : Dl} {M : Mem} {t : DA} {PI : (Mem → Prop) → List D → Mem → Prop} (h : t δ M fun vs M1 => ∃ xs ys, vs = [.tup xs, .tup ys] ∧ PI (fun _ => True) (zipD xs ys) M1) : diZT t δ M PI := h
theorem x_tup2 {p : List D → List D → Prop} {xs ys : List D} (h : p xs ys) : ∃ us vs, [D.tup xs, D.tup ys] = [.tup us, .tup vs] ∧ p us vs := ⟨xs, ys, rfl, h⟩
end V
namespace V
open PySem PySem.Spec PyProof.Rows L2 U StX
/-- t + u -/
def rCat1 : DR := fun x y M P => ∃ xs ys, x = .tup xs ∧ y = .tup ys ∧ xs.length + ys.length ≤ sizeLine ∧ P (.tup (xs ++ ys)) M
theorem op_catK {X : Cx} {K : PySem.W.Frag} (h : X.K = K) : OpR X (binaryOp .Add) (rCatA K) := by subst h; exact op_catA
instance op_cat1 {K : PySem.W.Frag} : OpD (rCatA K) rCat1 := ⟨fun S M H x y dx dy P Q w hx hy h k => by
  obtain ⟨xs, ys, rfl, rfl, hl, p⟩ := h
  cases hx with
  | @tup a vs _ n ha hs =>
    cases hy with
    | @tup b us _ m hb ht =>
      refine ⟨a, b, vs, us, rfl, rfl, SqT.of ha, SqT.of hb, by rw [hs.length, ht.length]; exact hl, fun e => ?_, fun e1 e2 => ?_, fun e1 e2 q nq => ?_⟩
      · subst e
        cases hs
        exact k _ S M _ H p .refl w (.tup m hb ht)
      · subst e2
        cases ht
        rw [List.append_nil] at p
        exact k _ S M _ H p .refl w (.tup n ha hs)
      · exact k _ S M _ _ p (.new nq) (w.new nq) (.tup (w.ns nq) upd_same ((hs.append ht).sm (Same.new nq)))⟩
theorem x_cat {xs ys : List D} {M : Mem} {P : QD} (h : xs.length + ys.length ≤ sizeLine) (p : P (.tup (xs ++ ys)) M) : rCat1 (.tup xs) (.tup ys) M P := ⟨xs, ys, rfl, rfl, h, p⟩
end V
namespace V
open PySem PySem.Spec PyProof.Rows L2 U StX
def rLtD (K : PySem.W.Frag) : R2 := fun x y H Q => ∃ d e, Dp K H x d ∧ Dp K H y e ∧ PySem.W.alike d e = true ∧ d ≠ .none ∧ min d.depth e.depth < 64 ∧ Q (.bl (PySem.W.dataLt d e)) H
def rLtP1 : DR := fun x y M P => ∃ (n m : Int) (z u : Str), x = .tup [.int n, .str z] ∧ y = .tup [.int m, .str u] ∧ P (.bl (if n = m then decide (cd z < cd u) else decide (n < m))) M
theorem eqv_str (z u : Str) : PyData.eqv (.str z) (.str u) = decide (z = u) := by
  simp only [PyData.eqv]
  by_cases h : z = u
  · simp [h]
  · simp [h]
theorem lt_np {n m : Int} {z u : Str} : PySem.W.dataLt (.tuple [.int n, .str z]) (.tuple [.int m, .str u]) = if n = m then decide (cd z < cd u) else decide (n < m) := by
  rw [PySem.W.dataLt_pair (by simp [PySem.W.alike]) (by simp [PySem.W.alike]), PySem.W.dataLt_int, PySem.W.dataLt_str, eqv_str]
  simp only [PyData.eqv, beq_iff_eq]
  by_cases h : n = m
  · simp only [h, if_true]
    by_cases k : z = u
    · subst k
      rw [decide_eq_true rfl, if_pos rfl]
      exact (decide_eq_false (List.lt_irrefl _)).symm
    · rw [decide_eq_false k, if_neg Bool.false_ne_true]
      rfl
  · simp only [h, if_false]
instance op_ltP1 {K : PySem.W.Frag} : OpD (rLtD K) rLtP1 := ⟨fun S M H x y dx dy P Q w hx hy h k => by
  obtain ⟨n, m, z, u, rfl, rfl, p⟩ := h
  have e1 : D.py (.tup [.int n, .str z]) = some (.tuple [.int n, .str z]) := by simp [D.py, D.pys]
  have e2 : D.py (.tup [.int m, .str u]) = some (.tuple [.int m, .str u]) := by simp [D.py, D.pys]
  refine ⟨_, _, Dt.dp _ hx e1, Dt.dp _ hy e2, by simp [PySem.W.alike, PySem.W.alikeAll], by simp, by simp [PyData.depth, PyData.depthAll], ?_⟩
  rw [lt_np]
  exact k _ S M _ H p .refl w (.bl _)⟩
theorem nlow : ∀ (k : Nat) (l : List Nat), (∀ c ∈ l, 46 ≤ c ∧ c ≠ 47) → l.length = k → ¬ l < List.replicate k 46
  | 0, l, _, _ => List.not_lt_nil l
  | k + 1, [], _, h => by simp at h
  | k + 1, x :: t, hc, h => by
    rw [List.replicate_succ, List.cons_lt_cons_iff]
    rintro (z | ⟨_, z⟩)
    · have := (hc x (by simp)).1; omega
    · exact nlow k t (fun c h => hc c (by simp [h])) (by simpa using h) z
theorem low : ∀ (m k : Nat) (l : List Nat), (∀ c ∈ l, 46 ≤ c ∧ c ≠ 47) → l.length = m + 1 + k → l < List.replicate m 46 ++ 48 :: List.replicate k 46 → ∀ a, a ≤ m → l[a]? = some 46
  | _, _, [], _, h, _, _, _ => by simp at h; omega
  | 0, k, x :: t, hc, h, lt, a, ha => by
    have e : a = 0 := by omega
    subst e
    have hx := hc x (by simp)
    simp only [List.replicate_zero, List.nil_append, List.cons_lt_cons_iff] at lt
    rcases lt with z | ⟨_, z⟩
    · have : x = 46 := by omega
      rw [this]; rfl
    · exact (nlow k t (fun c h => hc c (by simp [h])) (by simp at h; omega) z).elim
  | m + 1, k, x :: t, hc, h, lt, a, ha => by
    have hx := hc x (by simp)
    simp only [List.replicate_succ, List.cons_append, List.cons_lt_cons_iff] at lt
    rcases lt with z | ⟨e, z⟩
    · omega
    · cases a with
      | zero => rw [e]; rfl
      | succ a => exact low m k t (fun c h => hc c (by simp [h])) (by simp at h; omega) z a (by omega)
end V
namespace V
open PySem PySem.Spec PyProof.Rows L2 U StX
def kD : Key → D
  | .inl i => .int i
  | .inr x => .str x
def valD (kvs : List (Key × D)) (k : Key) : Option D := (kvs.find? fun kv => decide (kv.1 = k)).map (·.2)
def putDk (kvs : List (Key × D)) (k : Key) (d : D) : List (Key × D) :=
  if (kvs.any fun kv => decide (kv.1 = k)) = true then kvs.map (fun kv => if kv.1 = k then (kv.1, d) else kv) else kvs ++ [(k, d)]
theorem valD_pos {p : Key × D} {r : List (Key × D)} {k : Key} (e : p.1 = k) : valD (p :: r) k = some p.2 := by simp [valD, List.find?_cons, e]
theorem valD_neg {p : Key × D} {r : List (Key × D)} {k : Key} (e : ¬ p.1 = k) : valD (p :: r) k = valD r k := by simp [valD, List.find?_cons, e]
section
variable {S S' : Addr → Prop} {M M' : Mem} {H H' : Hp}
theorem dt_kD {v : V} {k : Key} (h : Dt S H v (kD k)) : v = kV k := by
  cases k with
  | inl i => cases h; rfl
  | inr x => cases h; rfl
theorem val_held : ∀ {ws : List (Key × V)} {kvs : List (Key × D)}, ws.map (·.1) = kvs.map (·.1) → DtA S H (ws.map (·.2)) (kvs.map (·.2)) → ∀ k, (valD kvs k = none ∧ valV ws k = none) ∨ ∃ d v, valD kvs k = some d ∧ valV ws k = some v ∧ Dt S H v d
  | [], [], _, _, k => .inl ⟨rfl, rfl⟩
  | [], _ :: _, h, _, _ => by simp at h
  | _ :: _, [], h, _, _ => by simp at h
  | (a, v) :: ws, (b, d) :: kvs, hk, hs, k => by
    simp only [List.map_cons, List.cons.injEq] at hk
    obtain ⟨rfl, hk⟩ := hk
    cases hs with
    | cons h1 h2 =>
      by_cases c : a = k
      · exact .inr ⟨d, v, valD_pos c, valV_pos c, h1⟩
      · rw [valD_neg (p := (a, d)) c, valV_neg (p := (a, v)) c]
        exact val_held hk h2 k
theorem map_held {v : V} {d : D} (hv : Dt S H v d) (k : Key) : ∀ {ws : List (Key × V)} {kvs : List (Key × D)}, ws.map (·.1) = kvs.map (·.1) → DtA S H (ws.map (·.2)) (kvs.map (·.2)) →
    (ws.map (fun kv => if kv.1 = k then (kv.1, v) else kv)).map (·.1) = (kvs.map (fun kv => if kv.1 = k then (kv.1, d) else kv)).map (·.1) ∧
    DtA S H ((ws.map (fun kv => if kv.1 = k then (kv.1, v) else kv)).map (·.2)) ((kvs.map (fun kv => if kv.1 = k then (kv.1, d) else kv)).map (·.2))
  | [], [], _, _ => ⟨rfl, .nil⟩
  | [], _ :: _, h, _ => by simp at h
  | _ :: _, [], h, _ => by simp at h
  | (a, x) :: ws, (b, y) :: kvs, hk, hs => by
    simp only [List.map_cons, List.cons.injEq] at hk
    obtain ⟨rfl, hk⟩ := hk
    cases hs with
    | cons h1 h2 =>
      obtain ⟨e1, e2⟩ := map_held hv k hk h2
      simp only [List.map_cons]
      by_cases c : a = k
      · rw [if_pos c, if_pos c]
        exact ⟨by rw [e1], .cons hv e2⟩
      · rw [if_neg c, if_neg c]
        exact ⟨by rw [e1], .cons h1 e2⟩
theorem any_held (k : Key) : ∀ {ws : List (Key × V)} {kvs : List (Key × D)}, ws.map (·.1) = kvs.map (·.1) → (ws.any fun kv => decide (kv.1 = k)) = (kvs.any fun kv => decide (kv.1 = k))
  | [], [], _ => rfl
  | [], _ :: _, h => by simp at h
  | _ :: _, [], h => by simp at h
  | (a, x) :: ws, (b, y) :: kvs, hk => by
    simp only [List.map_cons, List.cons.injEq] at hk
    obtain ⟨rfl, hk⟩ := hk
    rw [List.any_cons, List.any_cons, any_held k hk]
theorem put_heldK {v : V} {d : D} (hv : Dt S H v d) (k : Key) {ws : List (Key × V)} {kvs : List (Key × D)} (hk : ws.map (·.1) = kvs.map (·.1)) (hs : DtA S H (ws.map (·.2)) (kvs.map (·.2))) :
    (putK ws k v).map (·.1) = (putDk kvs k d).map (·.1) ∧ DtA S H ((putK ws k v).map (·.2)) ((putDk kvs k d).map (·.2)) := by
  unfold putK putDk
  rw [any_held k hk]
  by_cases c : (kvs.any fun kv => decide (kv.1 = k)) = true
  · rw [if_pos c, if_pos c]
    exact map_held hv k hk hs
  · rw [if_neg c, if_neg c, List.map_append, List.map_append, List.map_append, List.map_append, hk]
    exact ⟨rfl, hs.snoc hv⟩
theorem len_held {ws : List (Key × V)} {kvs : List (Key × D)} (hk : ws.map (·.1) = kvs.map (·.1)) : ws.length = kvs.length := by
  have := congrArg List.length hk
  rwa [List.length_map, List.length_map] at this
end
def dDNew : DE := fun δ M P => ∀ a, M a = none → P (.ptr a) (mset M a (.dic []))
instance pu_dnew : PuE tDNewK dDNew := ⟨fun S M σ δ H P Q w e h k p hp =>
  k (.ptr p) _ _ (.ref p) _ (h p (w.fresh hp)) (.mutable w hp) (w.mutable hp ⟨[], upd_same, rfl, .nil⟩) (.ptr p)⟩
def dDGet2 (a b c : DE) : DE := fun δ M P => a δ M fun x M1 => ∃ p, x = .ptr p ∧ (∃ kvs, M1 p = some (.dic kvs)) ∧ b δ M1 fun y M2 => c δ M2 fun z M3 => ∃ kvs k, M3 p = some (.dic kvs) ∧ y = kD k ∧ P ((valD kvs k).getD z) M3
instance pu_dget2 {ta tb tc : TE} {da db dc : DE} [A : PuE ta da] [B : PuE tb db] [C : PuE tc dc] : PuE (tDGet2 ta tb tc) (dDGet2 da db dc) := ⟨fun S M σ δ H P Q w e h k =>
  A.run S M σ δ H _ _ w e h fun x S1 M1 v1 H1 p1 t1 w1 h1 => by
    obtain ⟨p, rfl, ⟨kvs, hm⟩, p1⟩ := p1
    cases h1
    obtain ⟨_, ws, ha, _, _⟩ := w1.mem p _ hm
    refine ⟨p, rfl, .inl ⟨ws, .inl ha⟩, B.run S1 M1 σ δ H1 _ _ w1 (e.step w t1) p1 fun y S2 M2 v2 H2 p2 t2 w2 h2 => C.run S2 M2 σ δ H2 _ _ w2 (e.step w (t1.trans t2)) p2 fun z S3 M3 v3 H3 p3 t3 w3 h3 => ?_⟩
    obtain ⟨kvs, k', hm, rfl, p3⟩ := p3
    have ev := dt_kD h2
    subst ev
    obtain ⟨_, ws, ha, hk, hs⟩ := w3.mem p _ hm
    refine ⟨valV ws k', DGet.k ha, ?_⟩
    rcases val_held hk hs k' with ⟨e1, e2⟩ | ⟨d, v, e1, e2, e3⟩
    · rw [e2]
      rw [e1] at p3
      exact k _ _ _ _ _ p3 ((t1.trans t2).trans t3) w3 h3
    · rw [e2]
      rw [e1] at p3
      exact k _ _ _ _ _ p3 ((t1.trans t2).trans t3) w3 e3⟩
def dDSetd (a b c : DE) : DE := fun δ M P => a δ M fun x M1 => ∃ p, x = .ptr p ∧ (∃ kvs, M1 p = some (.dic kvs)) ∧ b δ M1 fun y M2 => c δ M2 fun z M3 => ∃ kvs k, M3 p = some (.dic kvs) ∧ y = kD k ∧ kvs.length < sizeLine ∧
  (∀ d, valD kvs k = some d → P d M3) ∧ (valD kvs k = none → P z (mset M3 p (.dic (putDk kvs k z))))
instance pu_dsetd {ta tb tc : TE} {da db dc : DE} [A : PuE ta da] [B : PuE tb db] [C : PuE tc dc] : PuE (tDSetd ta tb tc) (dDSetd da db dc) := ⟨fun S M σ δ H P Q w e h k =>
  A.run S M σ δ H _ _ w e h fun x S1 M1 v1 H1 p1 t1 w1 h1 => by
    obtain ⟨p, rfl, ⟨kvs, hm⟩, p1⟩ := p1
    cases h1
    obtain ⟨_, ws, ha, _, _⟩ := w1.mem p _ hm
    refine ⟨p, rfl, .inl ⟨ws, .inl ha⟩, B.run S1 M1 σ δ H1 _ _ w1 (e.step w t1) p1 fun y S2 M2 v2 H2 p2 t2 w2 h2 => C.run S2 M2 σ δ H2 _ _ w2 (e.step w (t1.trans t2)) p2 fun z S3 M3 v3 H3 p3 t3 w3 h3 => ?_⟩
    obtain ⟨kvs, k', hm, rfl, hl, q1, q2⟩ := p3
    have ev := dt_kD h2
    subst ev
    obtain ⟨sp, ws, ha, hk, hs⟩ := w3.mem p _ hm
    have t123 := (t1.trans t2).trans t3
    refine ⟨ws, k', ha, rfl, by rw [len_held hk]; exact hl, fun v hv => ?_, fun hv => ?_⟩
    · rcases val_held hk hs k' with ⟨e1, e2⟩ | ⟨d, v', e1, e2, e3⟩
      · rw [e2] at hv; cases hv
      · rw [e2] at hv; cases hv
        exact k _ _ _ _ _ (q1 d e1) t123 w3 e3
    · rcases val_held hk hs k' with ⟨e1, e2⟩ | ⟨d, v', e1, e2, e3⟩
      · obtain ⟨e4, e5⟩ := put_heldK h3 k' hk hs
        have ex : Ext S3 H3 (upd H3 p (.dK (putK ws k' v3))) := Ext.mut (Ext.refl _) sp
        exact k _ _ _ _ _ (q2 e1) (t123.trans (.change hm)) (w3.change hm ⟨_, upd_same, e4, e5.go ex⟩) (h3.go ex)
      · rw [e2] at hv; cases hv⟩
def sDPutD (a b c : DE) : DS := fun nx rt bk ct δ M => c δ M fun z M1 => a δ M1 fun x M2 => b δ M2 fun y M3 => ∃ p kvs k, x = .ptr p ∧ M3 p = some (.dic kvs) ∧ y = kD k ∧ kvs.length < sizeLine ∧ nx δ (mset M3 p (.dic (putDk kvs k z)))
instance pu_dput {ta tb tc : TE} {da db dc : DE} [A : PuE ta da] [B : PuE tb db] [C : PuE tc dc] : PuS (sDPut ta tb tc) (sDPutD da db dc) := ⟨fun S M σ δ H nx rt bk ct E w e h l =>
  C.run S M σ δ H _ _ w e h fun z S1 M1 v1 H1 p1 t1 w1 h1 => A.run S1 M1 σ δ H1 _ _ w1 (e.step w t1) p1 fun x S2 M2 v2 H2 p2 t2 w2 h2 =>
    B.run S2 M2 σ δ H2 _ _ w2 (e.step w (t1.trans t2)) p2 fun y S3 M3 v3 H3 p3 t3 w3 h3 => by
      obtain ⟨p, kvs, k', rfl, hm, rfl, hl, q⟩ := p3
      have ev := dt_kD h3
      subst ev
      cases h2
      obtain ⟨sp, ws, ha, hk, hs⟩ := w3.mem p _ hm
      have hv := dt_step w1 (t2.trans t3) _ h1
      obtain ⟨e4, e5⟩ := put_heldK hv k' hk hs
      have t123 := (t1.trans t2).trans t3
      have ex : Ext S3 H3 (upd H3 p (.dK (putK ws k' v1))) := Ext.mut (Ext.refl _) sp
      have t4 : Step S M H S3 (mset M3 p (.dic (putDk kvs k' z))) (upd H3 p (.dK (putK ws k' v1))) := t123.trans (.change hm)
      exact ⟨p, _, rfl, DPut.k ha (by rw [len_held hk]; exact hl), l.nx _ _ _ _ _ q t4 (w3.change hm ⟨_, upd_same, e4, e5.go ex⟩) (e.step w t4)⟩⟩
/-- d[k] -/
def dDIx (a b : DE) : DE := fun δ M P => a δ M fun x M1 => b δ M1 fun y M2 => ∃ p kvs k d, x = .ptr p ∧ M2 p = some (.dic kvs) ∧ y = kD k ∧ valD kvs k = some d ∧ P d M2
instance pu_dix {ta tb : TE} {da db : DE} [A : PuE ta da] [B : PuE tb db] : PuE (tDGet ta tb) (dDIx da db) := ⟨fun S M σ δ H P Q w e h k =>
  A.run S M σ δ H _ _ w e h fun x S1 M1 v1 H1 p1 t1 w1 h1 => B.run S1 M1 σ δ H1 _ _ w1 (e.step w t1) p1 fun y S2 M2 v2 H2 p2 t2 w2 h2 => by
    obtain ⟨p, kvs, k', d, rfl, hm, rfl, hv, p2⟩ := p2
    have ev := dt_kD h2
    subst ev
    cases h1
    obtain ⟨_, ws, ha, hk, hs⟩ := w2.mem p _ hm
    rcases val_held hk hs k' with ⟨e1, e2⟩ | ⟨d', v, e1, e2, e3⟩
    · rw [hv] at e1; cases e1
    · rw [hv] at e1; cases e1
      exact ⟨p, v, rfl, e2 ▸ DGet.k ha, k _ _ _ _ _ p2 (t1.trans t2) w2 e3⟩⟩
/-- k in d -/
def dDIn (a b : DE) : DE := fun δ M P => a δ M fun y M1 => b δ M1 fun x M2 => ∃ p kvs k, x = .ptr p ∧ M2 p = some (.dic kvs) ∧ y = kD k ∧ P (.bl (valD kvs k).isSome) M2
instance pu_din {ta tb : TE} {da db : DE} [A : PuE ta da] [B : PuE tb db] : PuE (tDIn ta tb) (dDIn da db) := ⟨fun S M σ δ H P Q w e h k =>
  A.run S M σ δ H _ _ w e h fun y S1 M1 v1 H1 p1 t1 w1 h1 => B.run S1 M1 σ δ H1 _ _ w1 (e.step w t1) p1 fun x S2 M2 v2 H2 p2 t2 w2 h2 => by
    obtain ⟨p, kvs, k', rfl, hm, rfl, p2⟩ := p2
    have ev := dt_kD h1
    subst ev
    cases h2
    obtain ⟨_, ws, ha, hk, hs⟩ := w2.mem p _ hm
    refine ⟨p, valV ws k', rfl, DGet.k ha, ?_⟩
    rcases val_held hk hs k' with ⟨e1, e2⟩ | ⟨d', v, e1, e2, e3⟩
    · rw [e2]
      rw [e1] at p2
      exact k _ _ _ _ _ p2 (t1.trans t2) w2 (.bl _)
    · rw [e2]
      rw [e1] at p2
      exact k _ _ _ _ _ p2 (t1.trans t2) w2 (.bl _)⟩
/-- len(d) -/
def rLenDK : List V → Hp → VK → Prop := fun xs H Q => ∃ (a : Addr) (kvs : List (Key × V)), xs = [.ref a] ∧ H a = some (.dK kvs) ∧ Q (.int (kvs.length : Nat)) H
def rLenD1 : DC := fun ds M P => ∃ p kvs, ds = [.ptr p] ∧ M p = some (.dic kvs) ∧ P (.int (kvs.length : Nat)) M
instance cb_lenD : CbD rLenDK rLenD1 := ⟨fun S M H vs ds P Q w hv h k => by
  obtain ⟨p, kvs, rfl, hm, p1⟩ := h
  match vs, hv with
  | [v], .cons h1 .nil =>
    cases h1
    obtain ⟨_, ws, ha, hk, hs⟩ := w.mem p _ hm
    exact ⟨p, ws, rfl, ha, by rw [len_held hk]; exact k _ _ _ _ _ p1 .refl w (.int _)⟩⟩
instance ip_IC1 {C : Int → Int → Prop} {f : Int → Int → V} {g : Int → Int → D} [F : VD f g] : IpD (rI C f) (rIC1 C g) := ⟨fun S M H x y dx dy P Q w hx hy h k => by
  obtain ⟨i, j, rfl, rfl, c, p⟩ := h
  cases hx; cases hy
  exact ⟨i, j, rfl, rfl, c, k _ S M _ H p .refl w (F.run S H i j)⟩⟩
section
variable {S S' : Addr → Prop} {M M' M0 : Mem} {H H' : Hp}
theorem Step.less (t : Step S M H S' M' H') (l : Mle M0 M') : Step S M H S' M0 H' := ⟨fun b o h e => by
  obtain ⟨e1, h1, s1⟩ := t.keep b o h e
  refine ⟨e1, ?_, s1⟩
  cases z : M0 b with
  | none => rfl
  | some mo => rw [l b mo z] at h1; cases h1⟩
variable {P : Program} {w : World} {K : PySem.W.Frag} {mg : Str → Option Value} {base : Heap} {x qual : Str} {st : Stmt} {f : Addr} {fd : FuncData} {N ps : List Str} {k : Nat} {sp : DC}
/-- a def that leaves things of its own making behind -/
theorem fnDW (F : L2.Fun K x qual st f fd) (S : FnScope N ps (L2.defScope st)) (len : ∀ ds M P, sp ds M P → ds.length = ps.length)
    (hb : ∀ (cdv : Value) (A : Around) (outer : List Env) (s : Shared) (H : Hp) (E : XK), Room k (A.deeper (envOfC qual (L2.defScope st) s.heap.objs.size f cdv)) →
      ∃ t, PSs (cxOf L2.CX0 P w K mg base N qual (L2.defScope st) f cdv A outer s H E).nox (L2.defBody st) t ∧ ∃ dt, PuS t dt ∧ ∀ ds M R, sp ds M R → dt (fun _ M' => ∃ M0, Mle M0 M' ∧ R .non M0) (fun d M' => ∃ M0, Mle M0 M' ∧ R d M0) (fun _ _ => False) (fun _ _ => False) (startD N ds) M) :
    FnOk P w K mg base L2.CX0 (k + 1) f fd ps (lift sp) :=
  F.ok S (liftLen len) fun cdv A outer s H vs Q E hr h => by
    obtain ⟨t, ht, dt, A, go⟩ := hb cdv A outer s H E hr
    refine ⟨t, ht, ?_⟩
    obtain ⟨S, M, ds, R, w, h, p, k⟩ := h
    refine A.run S M _ _ H _ _ _ _ _ w (en_start N h) (go ds M R p) ⟨fun δ' S' M' σ' H' q t w e => ?_, ?_, fun _ _ _ _ _ q => q.elim, fun _ _ _ _ _ q => q.elim⟩
    · obtain ⟨M0, l, q⟩ := q
      exact k _ S' M0 _ H' q (t.less l) (w.drop l) .non
    · rintro d S' M' v H' ⟨M0, l, q⟩ t w' hv
      exact k d S' M0 v H' q (t.less l) (w'.drop l) hv
theorem mle_refl : Mle M M := fun _ _ h => h
theorem mle_set {a : Addr} {o : MO} (h : M a = none) : Mle M (mset M a o) := fun b mo e => by
  rw [mset_ne (fun z => by rw [z, h] at e; cases e)]
  exact e
end
end V
namespace V
open PySem PySem.Spec PyProof.Rows L2 U StX
theorem cd_get {x : Str} {i c : Nat} (h : x.cps[i]? = some c) : (cd x)[i]? = some c := by
  show x.cps.toList[i]? = some c
  rw [Array.getElem?_toList]; exact h
def ItzLS (K : PySem.W.Frag) (a : Addr) (x : Str) : It :=
  ⟨fun i H => ∃ (xs : List V) (v : V), SqL K H a xs ∧ xs[i]? = some v ∧ i < (cd x).length,
    fun i H v H' => ∃ T y c, v = .ref T ∧ H T = none ∧ H' = upd H T (.tup [y, .str (one c)]) ∧ (∀ xs, SqL K H a xs → xs[i]? = some y) ∧ (cd x)[i]? = some c,
    fun i H => ∃ xs : List V, SqL K H a xs ∧ i ≤ xs.length ∧ i ≤ (cd x).length ∧ (i = xs.length ∨ i = (cd x).length)⟩
def iZipLS (K : PySem.W.Frag) (ta : TA) : TI := fun σ H R => ta σ H fun vs H1 => ∃ a x xs, vs = [.ref a, .str x] ∧ SqL K H1 a xs ∧ R (ItzLS K a x) H1
/-- over data -/
def diZS (a : DA) : DI := fun δ M P => a δ M fun vs M1 => ∃ xs z, vs = [.lst xs, .str z] ∧ P (fun _ => True) (zipD xs ((cd z).map sgn)) M1
instance pu_iZS {K : PySem.W.Frag} {tt : TA} {dd : DA} [A : PuA tt dd] : PuI (iZipLS K tt) (diZS dd) := ⟨fun S M σ δ H P R w e h k =>
  A.run S M σ δ H _ _ w e h fun d S1 M1 v H1 p1 t1 w1 h1 => by
    obtain ⟨xs, z, rfl, p1⟩ := p1
    match v, h1 with
    | [.ref a, .str _], .cons h2 (.cons (.str _) .nil) =>
      have sa := stay_lst w1 h2
      obtain ⟨vs, ha, hs⟩ := sa _ _ _ .refl w1 trivial
      have ll : ((cd z).map sgn).length = (cd z).length := List.length_map _
      refine ⟨a, z, vs, rfl, SqL.of ha, k _ _ S1 M1 H1 _ p1 t1 w1 ⟨fun S' M' H' t w' _ => ?_, fun i S' M' H' hi t w' _ => ?_, fun i S' M' H' x H2 hi t w' _ y => ?_⟩⟩
      · obtain ⟨vs, h4, h5⟩ := sa _ _ _ t w' trivial
        refine ⟨vs, SqL.of h4, ?_⟩
        rw [zipD_len, h5.length, ll]
        omega
      · obtain ⟨vs, h4, h5⟩ := sa _ _ _ t w' trivial
        rw [zipD_len, ll] at hi
        have l1 := h5.length
        exact ⟨vs, vs[i], SqL.of h4, at_some (by omega), by omega⟩
      · obtain ⟨vs, h4, h5⟩ := sa _ _ _ t w' trivial
        obtain ⟨T, y0, c, rfl, nT, rfl, q1, q2⟩ := y
        obtain ⟨d, e1, e2⟩ := h5.getV (q1 vs (SqL.of h4))
        have e3 : ((cd z).map sgn)[i]? = some (.str (one c)) := by
          rw [List.getElem?_map, q2]
          rfl
        exact ⟨Same.new nT, _, zipD_get e1 e3, .tup (w'.ns nT) upd_same (.cons (e2.sm (Same.new nT)) (.cons (.str _) .nil))⟩⟩
end V
namespace V
open PySem PySem.Spec PyProof.Rows L2 U StX
def ItzSS (y x : Str) : It :=
  ⟨fun i H => i < (cd y).length ∧ i < (cd x).length,
    fun i H v H' => ∃ T e c, v = .ref T ∧ H T = none ∧ H' = upd H T (.tup [.str (one e), .str (one c)]) ∧ (cd y)[i]? = some e ∧ (cd x)[i]? = some c,
    fun i H => i ≤ (cd y).length ∧ i ≤ (cd x).length ∧ (i = (cd y).length ∨ i = (cd x).length)⟩
def iZipSS (K : PySem.W.Frag) (ta : TA) : TI := fun σ H R => ta σ H fun vs H1 => ∃ y x, vs = [.str y, .str x] ∧ R (ItzSS y x) H1
def diZSS (a : DA) : DI := fun δ M P => a δ M fun vs M1 => ∃ y z, vs = [.str y, .str z] ∧ P (fun _ => True) (zipD ((cd y).map sgn) ((cd z).map sgn)) M1
instance pu_iZSS {K : PySem.W.Frag} {tt : TA} {dd : DA} [A : PuA tt dd] : PuI (iZipSS K tt) (diZSS dd) := ⟨fun S M σ δ H P R w e h k =>
  A.run S M σ δ H _ _ w e h fun d S1 M1 v H1 p1 t1 w1 h1 => by
    obtain ⟨y, z, rfl, p1⟩ := p1
    match v, h1 with
    | [.str _, .str _], .cons (.str _) (.cons (.str _) .nil) =>
      have l1 : ((cd y).map sgn).length = (cd y).length := List.length_map _
      have l2 : ((cd z).map sgn).length = (cd z).length := List.length_map _
      refine ⟨y, z, rfl, k _ _ S1 M1 H1 _ p1 t1 w1 ⟨fun S' M' H' t w' _ => ?_, fun i S' M' H' hi t w' _ => ?_, fun i S' M' H' x H2 hi t w' _ q => ?_⟩⟩
      · rw [zipD_len, l1, l2]
        show _ ≤ _ ∧ _ ≤ _ ∧ _
        omega
      · rw [zipD_len, l1, l2] at hi
        show _ < _ ∧ _ < _
        omega
      · obtain ⟨T, e, c, rfl, nT, rfl, q1, q2⟩ := q
        have e1 : ((cd y).map sgn)[i]? = some (.str (one e)) := by
          rw [List.getElem?_map, q1]
          rfl
        have e3 : ((cd z).map sgn)[i]? = some (.str (one c)) := by
          rw [List.getElem?_map, q2]
          rfl
        exact ⟨Same.new nT, _, zipD_get e1 e3, .tup (w'.ns nT) upd_same (.cons (.str _) (.cons (.str _) .nil))⟩⟩
theorem dtA_upd {S : Addr → Prop} {H : Hp} {v : V} {d : D} (h : Dt S H v d) : ∀ {vs : List V} {ds : List D} (j : Nat), DtA S H vs ds → DtA S H (vs.set j v) (ds.set j d)
  | _, _, _, .nil => .nil
  | _, _, 0, .cons _ h2 => .cons h h2
  | _, _, j + 1, .cons h1 h2 => .cons h1 (dtA_upd h j h2)
/-- xs[i] = v -/
def dgSub (a b : DE) : DG := fun d δ M P => a δ M fun x M1 => b δ M1 fun y M2 => ∃ p xs k j, x = .ptr p ∧ y = .int k ∧ M2 p = some (.lst xs) ∧ ixN xs.length k = some j ∧ P δ (mset M2 p (.lst (xs.set j d)))
instance pu_gSub {ta tb : TE} {da db : DE} [A : PuE ta da] [B : PuE tb db] : PuG (gSub ta tb rSetL) (dgSub da db) [] := ⟨fun S M σ δ H v d P R w e h p k =>
  A.run S M σ δ H _ _ w e p fun x S1 M1 v1 H1 p1 t1 w1 h1 => B.run S1 M1 σ δ H1 _ _ w1 (e.step w t1) p1 fun y S2 M2 v2 H2 p2 t2 w2 h2 => by
    obtain ⟨q, xs, n, j, rfl, rfl, hm, hj, p2⟩ := p2
    cases h2
    have h1 := dt_step w1 t2 _ h1
    cases h1
    obtain ⟨sq, vs, ha, hs⟩ := w2.mem q _ hm
    have hv := dt_step w (t1.trans t2) _ h
    have ex : Ext S2 H2 (upd H2 q (.lst (vs.set j v))) := Ext.mut (Ext.refl _) sq
    have t4 : Step S M H S2 (mset M2 q (.lst (xs.set j d))) (upd H2 q (.lst (vs.set j v))) := (t1.trans t2).trans (.change hm)
    exact ⟨q, vs, n, j, rfl, rfl, ha, by rw [hs.length]; exact hj, k δ S2 _ σ _ p2 t4 (w2.change hm ⟨_, upd_same, (dtA_upd hv j hs).go ex⟩) (e.step w t4) fun _ _ => rfl⟩⟩
def rGtD (K : PySem.W.Frag) : R2 := fun x y H Q => ∃ d e, Dp K H x d ∧ Dp K H y e ∧ PySem.W.alike d e = true ∧ d ≠ .none ∧ min d.depth e.depth < 64 ∧ Q (.bl (PySem.W.dataLt e d)) H
def rGtP1 : DR := fun x y M P => ∃ (n m : Int) (z u : Str), x = .tup [.int n, .str z] ∧ y = .tup [.int m, .str u] ∧ P (.bl (if m = n then decide (cd u < cd z) else decide (m < n))) M
instance op_gtP1 {K : PySem.W.Frag} : OpD (rGtD K) rGtP1 := ⟨fun S M H x y dx dy P Q w hx hy h k => by
  obtain ⟨n, m, z, u, rfl, rfl, p⟩ := h
  have e1 : D.py (.tup [.int n, .str z]) = some (.tuple [.int n, .str z]) := by simp [D.py, D.pys]
  have e2 : D.py (.tup [.int m, .str u]) = some (.tuple [.int m, .str u]) := by simp [D.py, D.pys]
  refine ⟨_, _, Dt.dp _ hx e1, Dt.dp _ hy e2, by simp [PySem.W.alike, PySem.W.alikeAll], by simp, by simp [PyData.depth, PyData.depthAll], ?_⟩
  rw [lt_np]
  exact k _ S M _ H p .refl w (.bl _)⟩
end V
namespace V
open PySem PySem.Spec PyProof.Rows L2 U StX
/-- a text is shown as the views say -/
def fits (vs : List (List Sh × Str)) (z : Str) : Prop := ∀ v ∈ vs, showS v.1 z = v.2
end V
namespace V
open PySem PySem.Spec PyProof.Rows L2 U StX
end V
namespace V
open PySem PySem.Spec PyProof.Rows L2 U StX
end V
namespace V
open PySem PySem.Spec PyProof.Rows L2 U StX
structure PyBg (W k : Nat) (p : PyData) : Prop where
  lay : p.canLay0 = true
  itx : PyData.intsShort 1000 p = true
  sh : PyData.showable p = true
  nd : PyData.hasDict p = false
  dep : PyData.depth p ≤ k
  wt : PyData.weight p ≤ W
structure PysBg (W k : Nat) (ps : List PyData) : Prop where
  lay : PyData.canLayAll0 ps = true
  itx : PyData.intsShortAll 1000 ps = true
  sh : PyData.showableAll ps = true
  nd : PyData.hasDictAll ps = false
  dep : PyData.depthAll ps ≤ k
  wt : PyData.weightAll ps ≤ W
theorem PysBg.nil (W k : Nat) : PysBg W k [] := ⟨rfl, rfl, rfl, rfl, Nat.zero_le _, Nat.zero_le _⟩
theorem PysBg.cons {W W' k : Nat} {p : PyData} {ps : List PyData} (a : PyBg W k p) (b : PysBg W' k ps) : PysBg (W + 1 + W') k (p :: ps) := by
  obtain ⟨a1, a2, a3, a4, a5, a6⟩ := a
  obtain ⟨b1, b2, b3, b4, b5, b6⟩ := b
  refine ⟨?_, ?_, ?_, ?_, ?_, ?_⟩
  · rw [PyData.canLayAll0, a1, b1]; rfl
  · rw [PyData.intsShortAll, a2, b2]; rfl
  · rw [PyData.showableAll, a3, b3]; rfl
  · rw [PyData.hasDictAll, a4, b4]; rfl
  · rw [PyData.depthAll]; omega
  · rw [PyData.weightAll]; omega
theorem PyBg.mono {W W' k k' : Nat} {p : PyData} (a : PyBg W k p) (h : W ≤ W') (h2 : k ≤ k') : PyBg W' k' p := ⟨a.lay, a.itx, a.sh, a.nd, Nat.le_trans a.dep h2, Nat.le_trans a.wt h⟩
theorem PysBg.list {W k : Nat} {ps : List PyData} (a : PysBg W k ps) : PyBg W (k + 1) (.list ps) :=
  ⟨by rw [PyData.canLay0]; exact a.lay, by rw [PyData.intsShort]; exact a.itx, by rw [PyData.showable]; exact a.sh, by rw [PyData.hasDict]; exact a.nd, by rw [PyData.depth]; have := a.dep; omega, by rw [PyData.weight]; exact a.wt⟩
theorem PysBg.tuple {W k : Nat} {ps : List PyData} (a : PysBg W k ps) : PyBg W (k + 1) (.tuple ps) :=
  ⟨by rw [PyData.canLay0]; exact a.lay, by rw [PyData.intsShort]; exact a.itx, by rw [PyData.showable]; exact a.sh, by rw [PyData.hasDict]; exact a.nd, by rw [PyData.depth]; have := a.dep; omega, by rw [PyData.weight]; exact a.wt⟩
theorem PyBg.int {i : Int} {b : Nat} (h : i.natAbs < 2 ^ b) (h0 : 0 < b) (hb : b ≤ 900) : PyBg b 0 (.int i) := by
  have l : i.natAbs.log2 < b := by
    by_cases z : i.natAbs = 0
    · rw [z]; exact h0
    · exact (Nat.log2_lt z).mpr h
  refine ⟨rfl, ?_, ?_, rfl, by rw [PyData.depth]; exact Nat.le_refl _, ?_⟩
  · rw [PyData.intsShort]
    have e := int_text_length_le (k := b) h0 l
    refine decide_eq_true ?_
    show (Str.ofString (toString i)).length ≤ 1000
    rw [PySem.ofString_length]
    omega
  · rw [PyData.showable]
    exact decide_eq_true (by omega)
  · rw [PyData.weight]
    split <;> omega
def bgP (W k : Nat) (d : D) : Prop := ∃ p, D.py d = some p ∧ PyBg W k p
def bgPs (W k : Nat) (ds : List D) : Prop := ∃ ps, D.pys ds = some ps ∧ PysBg W k ps
theorem bgPs.nil (W k : Nat) : bgPs W k [] := ⟨[], by rw [D.pys], .nil _ _⟩
theorem bgPs.cons {W W' k : Nat} {d : D} {ds : List D} : bgP W k d → bgPs W' k ds → bgPs (W + 1 + W') k (d :: ds) := fun ⟨p, e, a⟩ ⟨ps, e2, b⟩ => ⟨p :: ps, by rw [D.pys, e, e2], .cons a b⟩
theorem bgPs.all {W k : Nat} : ∀ {ds : List D}, (∀ d ∈ ds, bgP W k d) → bgPs (ds.length * (W + 1)) k ds
  | [], _ => bgPs.nil _ _
  | d :: ds, h => by
    obtain ⟨ps, e, a⟩ := bgPs.cons (h d List.mem_cons_self) (bgPs.all fun x hx => h x (List.mem_cons_of_mem _ hx))
    have q : (ds.length + 1) * (W + 1) = W + 1 + ds.length * (W + 1) := by rw [Nat.add_mul, Nat.one_mul, Nat.add_comm]
    rw [List.length_cons, q]
    exact ⟨ps, e, a⟩
theorem bgPs.list {W k : Nat} {ds : List D} : bgPs W k ds → bgP W (k + 1) (.lst ds) := fun ⟨ps, e, a⟩ => ⟨.list ps, by rw [D.py, e]; rfl, a.list⟩
theorem bgPs.tuple {W k : Nat} {ds : List D} : bgPs W k ds → bgP W (k + 1) (.tup ds) := fun ⟨ps, e, a⟩ => ⟨.tuple ps, by rw [D.py, e]; rfl, a.tuple⟩
theorem bgP.mono {W W' k k' : Nat} {d : D} : bgP W k d → W ≤ W' → k ≤ k' → bgP W' k' d := fun ⟨p, e, a⟩ h h2 => ⟨p, e, a.mono h h2⟩
theorem bgP.int {i : Int} {b : Nat} (h : i.natAbs < 2 ^ b) (h0 : 0 < b := by decide) (hb : b ≤ 900 := by decide) : bgP b 0 (.int i) := ⟨_, by rw [D.py], .int h h0 hb⟩
theorem bgP.bl (b : Bool) : bgP 0 0 (.bl b) := ⟨_, by rw [D.py], ⟨rfl, rfl, rfl, rfl, by rw [PyData.depth]; exact Nat.le_refl _, by rw [PyData.weight]; exact Nat.le_refl _⟩⟩
theorem bgP.non : bgP 0 0 .non := ⟨_, by rw [D.py], ⟨rfl, rfl, rfl, rfl, by rw [PyData.depth]; exact Nat.le_refl _, by rw [PyData.weight]; exact Nat.le_refl _⟩⟩
theorem bgP.str {z : Str} {n : Nat} (h : ∀ c ∈ cd z, c < 0x110000) (hn : (cd z).length ≤ n) : bgP n 0 (.str z) := by
  refine ⟨_, by rw [D.py], ?_, rfl, rfl, rfl, by rw [PyData.depth]; exact Nat.le_refl _, ?_⟩
  · rw [PyData.canLay0]
    unfold PyData.strOk
    rw [← Array.all_toList, List.all_eq_true]
    exact fun c hc => decide_eq_true (h c hc)
  · rw [PyData.weight]
    rw [cd_len] at hn
    exact hn
end V
namespace V
open PySem PySem.Spec PyProof.Rows L2 U StX
instance pu_revT {K : PySem.W.Frag} {ta : TE} {da : DE} [A : PuE ta da] : PuE (tRevT K ta) (dRevT da) := ⟨fun S M σ δ H P Q w e h k =>
  A.run S M σ δ H _ _ w e h fun d S1 M1 v H1 p1 t1 w1 h1 => by
    obtain ⟨xs, rfl, p1⟩ := p1
    cases h1 with
    | @tup a vs _ n ha hs =>
      exact ⟨a, vs, rfl, SqT.of ha, fun p np => k _ S1 M1 _ _ p1 (t1.trans (.new np)) (w1.new np) (.tup (w1.ns np) upd_same (hs.reverse.sm (Same.new np)))⟩⟩
end V
namespace V
open PySem PySem.Spec PyProof.Rows L2 U StX
def dCallL (i : Nat) (f : Addr) (sp : DC) (t : DA) : DE := fun δ M P => δ[i]? = some (some (.ptr f)) ∧ t δ M fun ds M1 => sp ds M1 P
instance pu_callL {i : Nat} {f : Addr} {sp : DC} {E : XK} {t : TA} {dt : DA} [A : PuA t dt] : PuE (tCallL i f (lift sp) [] E t) (dCallL i f sp dt) := ⟨fun S M σ δ H P Q w e h k => by
  obtain ⟨v, hv, hd⟩ := e.at_ i _ h.1
  cases hd
  exact ⟨hv, A.run S M σ δ H _ _ w e h.2 fun ds S1 M1 vs H1 p1 t1 w1 h1 => by
    rw [List.append_nil]
    exact ⟨S1, M1, ds, P, w1, h1, p1, k.go t1⟩⟩⟩
def iKT (K : PySem.W.Frag) (a : Addr) (l : List Str) : TI := fun σ H R => (∀ H, SqT K H a (l.map V.str)) → iTup K (tC (.ref a)) σ H R
def diKT (l : List Str) : DI := fun _ M P => P (fun _ => True) (l.map D.str) M
theorem walks_KT {S : Addr → Prop} {M : Mem} {H : Hp} {K : PySem.W.Frag} {a : Addr} {l : List Str} {G : Mem → Prop} (q : ∀ H, SqT K H a (l.map V.str)) : Walks (Itt K a) G S M H (l.map D.str) where
  stop S' M' H' t w g := ⟨_, q H', by rw [List.length_map, List.length_map]; exact Nat.le_refl _⟩
  go i S' M' H' hi t w g := ⟨l.map V.str, (l.map V.str)[i]'(by rw [List.length_map] at hi ⊢; exact hi), q H', at_some _⟩
  yld i S' M' H' x H2 hi t w g y := by
    obtain ⟨rfl, y⟩ := y
    have y := y _ (q H2)
    rw [List.getElem?_map] at y
    obtain ⟨z, hz, rfl⟩ := Option.map_eq_some_iff.mp y
    exact ⟨Same.refl _, .str z, by rw [List.getElem?_map, hz]; rfl, .str z⟩
instance pu_iKT {K : PySem.W.Frag} {a : Addr} {l : List Str} : PuI (iKT K a l) (diKT l) := ⟨fun S M σ δ H P R w e h k q => ⟨a, rfl, ⟨_, q H⟩, k _ _ S M H _ h .refl w (walks_KT q)⟩⟩
def tLcM (wi : TI) (g : TG) (tt : TT) (te : TE) (vs : List Nat) : TE := tLc wi g tt te vs
def thawP (P : QD) : QD := fun d M1 => ∃ xs, d = .lst xs ∧ ∀ a, M1 a = none → P (.ptr a) (mset M1 a (.lst xs))
def dLcM (i : DI) (g : DG) (t : DT) (a : DE) (vs : List Nat) : DE := fun δ M P => dLc i g t a vs δ M (thawP P)
instance pu_lcM {ti : TI} {g : TG} {t : TT} {ta : TE} {di : DI} {dg : DG} {dt : DT} {da : DE} {sl vs : List Nat} [I : PuI ti di] [A : PuG g dg sl] [sub : SubL sl vs] [T : PuT t dt] [B : PuE ta da] : PuE (tLcM ti g t ta vs) (dLcM di dg dt da vs) := ⟨fun S M σ δ H P Q w e h k =>
  I.run S M σ δ H _ _ w e h fun G xs S1 M1 H1 J p1 t1 w1 wk => by
    intro D0 hD
    obtain ⟨g1, hn, p1⟩ := p1
    -- what stands between the turns
    let Iv : Nat → Hp → Prop := fun i H' => ∃ S' M' acc ws, G M' ∧ dGather G dg dt da vs δ (thawP P) (xs.drop i) acc M' ∧ Step S1 M1 H1 S' M' H' ∧ Wo S' M' H' ∧ En S' H' σ δ ∧ S' D0 ∧ M' D0 = none ∧ H' D0 = some (.lst ws) ∧ DtA S' H' ws acc ∧ acc.length ≤ i
    refine ⟨fun i m H' => i ≤ xs.length ∧ m = xs.length - i ∧ Iv i H', ⟨_, Nat.zero_le _, rfl, (fun a => S1 a ∨ a = D0), M1, [], [], g1, p1, .apart hD, w1.apart hD, (e.step w t1).step w1 (.apart hD), .inr rfl, w1.fresh hD, upd_same, .nil, Nat.zero_le _⟩, ?_⟩
    rintro i m H2 ⟨hi, rfl, S2, M2, acc, ws, g2, p2, t2, w2, e2, sD, mD, hL, hA, hlen⟩
    by_cases hlt : i < xs.length
    · refine .inr ⟨wk.go i S2 M2 H2 hlt t2 w2 g2, Iv (i + 1), fun H' q => ⟨_, by omega, hlt, rfl, q⟩, ?_⟩
      intro x H3 y
      obtain ⟨same, d, hd, hx⟩ := wk.yld i S2 M2 H2 x H3 hlt t2 w2 g2 y
      rw [drop_cons hd] at p2
      have t3 : Step S2 M2 H2 S2 M2 H3 := .same same
      have w3 := w2.same same
      have e3 := e2.step w2 t3
      refine A.run S2 M2 _ _ H3 x d _ _ w3 (e3.wipe vs) hx p2 fun δ4 S4 M4 σ4 H4 p4 t4 w4 e4 o4 => ⟨by rw [o4 vs sub.h, wipe_wipe], ?_⟩
      refine T.run S4 M4 σ4 δ4 H4 _ _ w4 e4 p4 fun b S5 M5 H5 p5 t5 w5 => ?_
      have t25 := (t3.trans t4).trans t5
      obtain ⟨hL5, mD5, sD5⟩ := t25.keep _ _ mD hL
      have hA5 := dtA_step w2 t25 _ hA
      cases b with
      | true =>
        rw [if_pos rfl] at p5 ⊢
        refine B.run S5 M5 σ4 δ4 H5 _ _ w5 (e4.step w4 t5) p5 fun y S6 M6 v H6 p6 t6 w6 h6 => ?_
        obtain ⟨hL6, mD6, sD6⟩ := t6.keep _ _ mD5 hL5
        have hA6 := dtA_step w5 t6 _ hA5
        have sd : S6 D0 := sD6.mpr (sD5.mpr sD)
        have ex : Ext S6 H6 (upd H6 D0 (.lst (ws ++ [v]))) := Ext.mut (Ext.refl _) sd
        refine ⟨ws, hL6, by rw [hA.length]; exact Nat.lt_of_le_of_lt hlen (Nat.lt_of_lt_of_le hlt (by rw [sizeLine_eq]; exact hn)), S6, M6, acc ++ [y], ws ++ [v], p6.1, p6.2, ?_, ?_, ?_, sd, mD6, upd_same, (hA6.snoc h6).go ex, by rw [List.length_append, List.length_singleton]; omega⟩
        · have t16 := (t2.trans t25).trans t6
          refine ⟨fun b o n hb => ?_⟩
          obtain ⟨q1, q2, q3⟩ := t16.keep b o n hb
          exact ⟨(upd_ne (ne_of_none hb hD)).trans q1, q2, q3⟩
        · refine ⟨fun a s => ?_, fun a mo q => ?_⟩
          · by_cases c : a = D0
            · rw [c, upd_same]; exact fun z => nomatch z
            · rw [upd_ne c]; exact w6.tr a s
          · obtain ⟨s, q2⟩ := w6.mem a mo q
            have c : a ≠ D0 := by rintro rfl; rw [mD6] at q; cases q
            exact ⟨s, held_ext ex (fun u hu => (upd_ne c).trans hu) q2⟩
        · have e6 : En S6 H6 σ δ := e3.step w3 ((t4.trans t5).trans t6)
          exact ⟨e6.len, fun i d h => by
            obtain ⟨v, h1, h2⟩ := e6.at_ i d h
            exact ⟨v, h1, h2.go ex⟩⟩
      | false =>
        rw [if_neg Bool.false_ne_true] at p5 ⊢
        exact ⟨S5, M5, acc, ws, p5.1, p5.2, t2.trans t25, w5, e2.step w2 t25, sD5.mpr sD, mD5, hL5, hA5, by omega⟩
    · have ei : i = xs.length := by omega
      subst ei
      rw [List.drop_length] at p2
      obtain ⟨zs, ez, p2⟩ := p2
      cases ez
      refine .inl ⟨wk.stop S2 M2 H2 t2 w2 g2, k (.ptr D0) S2 (mset M2 D0 (.lst acc)) _ H2 (p2 D0 mD) (t1.trans ⟨fun b o n hb => ?_⟩) ⟨w2.tr, fun a mo q => ?_⟩ (.ptr D0)⟩
      · obtain ⟨q1, q2, q3⟩ := t2.keep b o n hb
        exact ⟨q1, (mset_ne (ne_of_none hb hD)).trans q2, q3⟩
      · by_cases c : a = D0
        · subst c
          rw [mset_same] at q
          cases q
          exact ⟨sD, ws, hL, hA⟩
        · rw [mset_ne c] at q
          exact w2.mem a mo q⟩
def rInX (K : PySem.W.Frag) (neg : Bool) : R2 := fun x y H Q => ∃ p ps, Dp K H x p ∧ Dp K H y (.list ps) ∧ p.canLay0 = true ∧ PyData.depth p ≤ 40 ∧ PyData.canLayAll0 ps = true ∧ Q (.bl ((ps.any fun z => PyData.eqv z p) != neg)) H
theorem any_py {x : D} {p : PyData} (hp : D.py x = some p) : ∀ {xs : List D} {ps : List PyData}, D.pys xs = some ps → (ps.any fun z => PyData.eqv z p) = xs.any fun z => D.eqb z x
  | [], ps, h => by rw [D.pys] at h; cases h; rfl
  | d :: ds, ps, h => by
    obtain ⟨q, qs, h1, h2, rfl⟩ := pys_cons h
    rw [List.any_cons, List.any_cons, eqv_py d x q p h1 hp, any_py hp h2]
def rInX1 (neg : Bool) : DR := fun x y M P => ∃ xs W k W' k', isLs M y xs ∧ okP W k x ∧ k ≤ 40 ∧ okPs W' k' xs ∧ P (.bl ((xs.any fun z => D.eqb z x) != neg)) M
instance op_inX1 {K : PySem.W.Frag} {neg : Bool} : OpD (rInX K neg) (rInX1 neg) := ⟨fun S M H x y dx dy P Q w hx hy h k => by
  obtain ⟨xs, W, n, W', n', hs, ⟨p, ep, op⟩, hn, ⟨ps, eps, ops⟩, hp⟩ := h
  have e : D.py (.lst xs) = some (.list ps) := by rw [D.py, eps]; rfl
  have hv : vw M dy = .lst xs := by
    rcases hs with rfl | ⟨a, rfl, ha⟩
    · rfl
    · unfold vw; simp only [ha]
  have hl : Dp K H y (.list ps) := dt_vw w hy (by rw [hv]; exact e)
  refine ⟨p, ps, Dt.dp _ hx ep, hl, op.lay, Nat.le_trans op.dep hn, ops.lay, k _ S M _ H ?_ .refl w (.bl _)⟩
  rw [any_py ep eps]
  exact hp⟩
section
variable {P : Program} {w : World} {K : PySem.W.Frag} {mg : Str → Option Value} {base : Heap} {x qual : Str} {st : Stmt} {f : Addr} {fd : FuncData} {N ps : List Str} {k : Nat} {sp : DC}
theorem fnDX (F : L2.Fun K x qual st f fd) (S : FnScope N ps (L2.defScope st)) (len : ∀ ds M P, sp ds M P → ds.length = ps.length)
    (hb : ∀ (cdv : Value) (A : Around) (outer : List Env) (s : Shared) (H : Hp) (E : XK), Room k (A.deeper (envOfC qual (L2.defScope st) s.heap.objs.size f cdv)) → A.guards = some [] →
      ∃ t, PSs (cxOf L2.CX0 P w K mg base N qual (L2.defScope st) f cdv A outer s H E).nox (L2.defBody st) t ∧ ∃ dt, PuS t dt ∧ ∀ ds M R, sp ds M R → dt (fun _ M' => ∃ M0, Mle M0 M' ∧ R .non M0) (fun d M' => ∃ M0, Mle M0 M' ∧ R d M0) (fun _ _ => False) (fun _ _ => False) (startD N ds) M) :
    FnG P w K mg base (k + 1) f fd ps (lift sp) :=
  fnG_of F S (liftLen len) fun cdv A outer s H vs Q E hr hg h => by
    obtain ⟨t, ht, dt, A, go⟩ := hb cdv A outer s H E hr hg
    refine ⟨t, ht, ?_⟩
    obtain ⟨S, M, ds, R, w, h, p, k⟩ := h
    refine A.run S M _ _ H _ _ _ _ _ w (en_start N h) (go ds M R p) ⟨fun δ' S' M' σ' H' q t w e => ?_, ?_, fun _ _ _ _ _ q => q.elim, fun _ _ _ _ _ q => q.elim⟩
    · obtain ⟨M0, l, q⟩ := q
      exact k _ S' M0 _ H' q (t.less l) (w.drop l) .non
    · rintro d S' M' v H' ⟨M0, l, q⟩ t w' hv
      exact k d S' M0 v H' q (t.less l) (w'.drop l) hv
end
end V
namespace V
open PySem PySem.Spec PyProof.Rows L2 U StX
/-- how many different numbers -/
def dcn (ns : List Int) : Nat := (firstMet (fun i => ns.getD i 0) ns.length).length
def tLenSetG (K : PySem.W.Frag) (ta : TE) : TE := fun σ H Q => ta σ H fun x H1 => ∃ l ns, x = V.ref l ∧ SqL K H1 l (ns.map V.int) ∧ ns.length ≤ 4000 ∧ Q (V.int (dcn ns : Nat)) H1
def dLenSetG (a : DE) : DE := fun δ M P => a δ M fun x M1 => ∃ ns, isLs M1 x (ns.map D.int) ∧ ns.length ≤ 4000 ∧ P (.int (dcn ns : Nat)) M1
instance pu_lenSetG {K : PySem.W.Frag} {ta : TE} {da : DE} [A : PuE ta da] : PuE (tLenSetG K ta) (dLenSetG da) := ⟨fun S M σ δ H P Q w e h k =>
  A.run S M σ δ H _ _ w e h fun d S1 M1 v H1 p1 t1 w1 h1 => by
    obtain ⟨ns, h2, hn, p1⟩ := p1
    obtain ⟨a, us, rfl, ha, hs⟩ := ls_get w1 h1 h2
    have eu := hs.ints_eq
    subst eu
    exact ⟨a, ns, rfl, SqL.of ha, hn, k _ S1 M1 _ H1 p1 t1 w1 (.int _)⟩⟩
theorem nodup_lenI {α : Type} [DecidableEq α] : ∀ (l m : List α), l.Nodup → (∀ x ∈ l, x ∈ m) → l.length ≤ m.length
  | [], m, _, _ => Nat.zero_le _
  | a :: l, m, h, hs => by
    rw [List.nodup_cons] at h
    have ha : a ∈ m := hs a List.mem_cons_self
    have := nodup_lenI l (m.erase a) h.2 fun x hx => by
      have : x ≠ a := fun e => h.1 (by rw [← e]; exact hx)
      exact (List.mem_erase_of_ne this).mpr (hs x (List.mem_cons_of_mem _ hx))
    rw [List.length_erase_of_mem ha] at this
    have := List.length_pos_of_mem ha
    rw [List.length_cons]
    omega
theorem dtA_keys {S : Addr → Prop} {H : Hp} : ∀ ks : List Key, DtA S H (ks.map kV) (ks.map kD)
  | [] => .nil
  | k :: ks => .cons (by cases k with
    | inl i => exact .int i
    | inr z => exact .str z) (dtA_keys ks)
def rListDK1 : DC := fun ds M P => ∃ p kvs, ds = [.ptr p] ∧ M p = some (.dic kvs) ∧ P (.lst (kvs.map fun kv => kD kv.1)) M
instance cb_listDK : CbD rListD rListDK1 := ⟨fun S M H vs ds P Q w hv h k => by
  obtain ⟨p, kvs, rfl, hm, p1⟩ := h
  match vs, hv with
  | [v], .cons h1 .nil =>
    cases h1
    obtain ⟨_, ws, ha, hk, hs⟩ := w.mem p _ hm
    refine ⟨p, ws, rfl, ha, fun q nq => k _ S M _ _ p1 (.new nq) (w.new nq) (.lst (w.ns nq) upd_same ?_)⟩
    have e1 : (ws.map fun kv => kV kv.1) = (ws.map (·.1)).map kV := by rw [List.map_map]; rfl
    have e2 : (kvs.map fun kv => kD kv.1) = (kvs.map (·.1)).map kD := by rw [List.map_map]; rfl
    rw [e1, e2, hk]
    exact dtA_keys _⟩
end V
namespace V
open PySem PySem.Spec PyProof.Rows L2 U StX
end V
namespace V
open PySem PySem.Spec PyProof.Rows L2 U StX
/-- the places of xs[::k] -/
def stepJ (k : Int) (n : Nat) : List Nat := sliceRange (sliceBounds none none (some k) n).1 (sliceBounds none none (some k) n).2.1 (sliceBounds none none (some k) n).2.2
def stepG {α : Type} (k : Int) (xs : List α) : List α := (stepJ k xs.length).filterMap fun j => xs[j]?
theorem dtA_picked {S : Addr → Prop} {H : Hp} {vs : List V} {ds : List D} (h : DtA S H vs ds) : ∀ js : List Nat, DtA S H (js.filterMap fun j => vs[j]?) (js.filterMap fun j => ds[j]?)
  | [] => .nil
  | j :: js => by
    have ih := dtA_picked h js
    rw [List.filterMap_cons, List.filterMap_cons]
    cases e : ds[j]? with
    | none =>
      have : vs[j]? = none := List.getElem?_eq_none (by rw [h.length]; exact List.getElem?_eq_none_iff.mp e)
      rw [this]
      exact ih
    | some d =>
      obtain ⟨v, h1, h2⟩ := h.get e
      rw [h1]
      exact .cons h2 ih
def tStepL (K : PySem.W.Frag) (k : Int) (te : TE) : TE := fun σ H Q => te σ H fun x H1 => ∃ a xs, x = V.ref a ∧ SqL K H1 a xs ∧ ∀ p, H1 p = none → Q (V.ref p) (upd H1 p (.lst (stepG k xs)))
def dStepL (k : Int) (a : DE) : DE := fun δ M P => a δ M fun x M1 => ∃ xs, isLs M1 x xs ∧ P (.lst (stepG k xs)) M1
instance pu_stepL {K : PySem.W.Frag} {k : Int} {ta : TE} {da : DE} [A : PuE ta da] : PuE (tStepL K k ta) (dStepL k da) := ⟨fun S M σ δ H P Q w e h kk =>
  A.run S M σ δ H _ _ w e h fun d S1 M1 v H1 p1 t1 w1 h1 => by
    obtain ⟨xs, h2, p1⟩ := p1
    obtain ⟨a, vs, rfl, ha, hs⟩ := ls_get w1 h1 h2
    refine ⟨a, vs, rfl, SqL.of ha, fun p np => kk _ S1 M1 _ _ p1 (t1.trans (.new np)) (w1.new np) (.lst (w1.ns np) upd_same ?_)⟩
    unfold stepG
    rw [hs.length]
    exact (dtA_picked hs _).sm (Same.new np)⟩
end V
namespace V
open PySem PySem.Spec PyProof.Rows L2 U StX
/-- x != y of two instances: what __eq__ says, the other way -/
def rNeOwn (C : Addr) (sp : Sp) : R2 := fun x y H Q => ∃ a b dx dy fs gs, x = V.ref a ∧ y = V.ref b ∧ H a = some (.ins C dx fs) ∧ H b = some (.ins C dy gs) ∧ sp [.ref a, .ref b] H (fun v H' => ∃ t, v = V.bl t ∧ Q (.bl (!t)) H') L2.E0
def rNeOwnD (C : Addr) (sp : DC) : DR := fun x y M P => (∃ n1 x1 n2 x2, x = .ins C n1 x1 ∧ y = .ins C n2 x2) ∧ sp [x, y] M fun d M' => ∃ t, d = .bl t ∧ P (.bl (!t)) M'
instance op_neOwnD {C : Addr} {sp : DC} : OpD (rNeOwn C (lift sp)) (rNeOwnD C sp) := ⟨fun S M H x y dx dy P Q w hx hy h k => by
  obtain ⟨⟨n1, x1, n2, x2, rfl, rfl⟩, h⟩ := h
  have gx := hx
  have gy := hy
  cases hx with
  | ins _ ha _ _ =>
    cases hy with
    | ins _ hb _ _ =>
      refine ⟨_, _, _, _, _, _, rfl, rfl, ha, hb, S, M, _, _, w, .cons gx (.cons gy .nil), h, fun d S' M' v H' p t w' hv => ?_⟩
      obtain ⟨b, rfl, p⟩ := p
      cases hv
      exact ⟨b, rfl, k _ S' M' _ H' p t w' (.bl _)⟩⟩
end V
namespace V
open PySem PySem.Spec PyProof.Rows L2 U StX
def dPairs : List (DE × DE) → Dl → Mem → (List (D × D) → Mem → Prop) → Prop
  | [], _, M, P => P [] M
  | (a, b) :: r, δ, M, P => a δ M fun x M1 => b δ M1 fun y M2 => dPairs r δ M2 fun ps M3 => P ((x, y) :: ps) M3
class PuPs (t : List (TE × TE)) (d : outParam (List (DE × DE))) : Prop where
  run : ∀ S M σ δ H (P : List (D × D) → Mem → Prop) (Q : List (V × V) → Hp → Prop), Wo S M H → En S H σ δ → dPairs d δ M P →
    (∀ ps S' M' vs H', P ps M' → Step S M H S' M' H' → Wo S' M' H' → DtA S' H' (vs.map (·.1)) (ps.map (·.1)) → DtA S' H' (vs.map (·.2)) (ps.map (·.2)) → Q vs H') → tPairs t σ H Q
instance pups_nil : PuPs [] [] := ⟨fun S M σ δ H P Q w e h k => k [] S M [] H h .refl w .nil .nil⟩
instance pups_cons {ta tb : TE} {da db : DE} {t : List (TE × TE)} {d : List (DE × DE)} [A : PuE ta da] [B : PuE tb db] [R : PuPs t d] : PuPs ((ta, tb) :: t) ((da, db) :: d) := ⟨fun S M σ δ H P Q w e h k =>
  A.run S M σ δ H _ _ w e h fun x S1 M1 v H1 p1 t1 w1 h1 =>
    B.run S1 M1 σ δ H1 _ _ w1 (e.step w t1) p1 fun y S2 M2 u H2 p2 t2 w2 h2 =>
      R.run S2 M2 σ δ H2 _ _ w2 (e.step w (t1.trans t2)) p2 fun ps S3 M3 vs H3 p3 t3 w3 h3 h4 =>
        k ((x, y) :: ps) S3 M3 ((v, u) :: vs) H3 p3 ((t1.trans t2).trans t3) w3 (.cons (dt_step w1 (t2.trans t3) _ h1) h3) (.cons (dt_step w2 t3 _ h2) h4)⟩
theorem keys_of {S : Addr → Prop} {H : Hp} : ∀ {vs : List (V × V)} {ks : List Key}, DtA S H (vs.map (·.1)) (ks.map kD) → vs.map (·.1) = ks.map kV
  | [], [], _ => rfl
  | [], _ :: _, h => by cases h
  | _ :: _, [], h => by cases h
  | v :: vs, k :: ks, h => by
    rw [List.map_cons, List.map_cons] at h
    cases h with
    | cons h1 h2 => rw [List.map_cons, List.map_cons, keys_of h2, dt_kD h1]
theorem merge_apart : ∀ (more acc : List (Key × V)), ((acc ++ more).map (·.1)).Nodup → mergeK acc more = acc ++ more
  | [], acc, _ => by rw [List.append_nil]; rfl
  | p :: more, acc, h => by
    show mergeK (putK acc p.1 p.2) more = _
    have no : (acc.any fun kv => decide (kv.1 = p.1)) = false := by
      cases c : acc.any fun kv => decide (kv.1 = p.1) with
      | false => rfl
      | true =>
        obtain ⟨q, hq, e⟩ := List.any_eq_true.mp c
        rw [List.map_append, List.nodup_append] at h
        exact (h.2.2 _ (List.mem_map.mpr ⟨q, hq, rfl⟩) _ (List.mem_map.mpr ⟨p, List.mem_cons_self, rfl⟩) (of_decide_eq_true e)).elim
    have e : putK acc p.1 p.2 = acc ++ [p] := by
      unfold putK
      rw [no, if_neg Bool.false_ne_true]
    rw [e, merge_apart more (acc ++ [p]) (by rw [List.append_assoc]; exact h), List.append_assoc]
    rfl
def dDisp (d : List (DE × DE)) : DE := fun δ M P => ∀ a, M a = none → dPairs d δ (mset M a (.dic [])) fun ps M2 => M2 a = some (.dic []) ∧ ∃ kvs : List (Key × D), ps = kvs.map (fun kv => (kD kv.1, kv.2)) ∧ kvs.length ≤ 15 ∧ (kvs.map (·.1)).Nodup ∧ P (.ptr a) (mset M2 a (.dic kvs))
instance pu_disp {t : List (TE × TE)} {d : List (DE × DE)} [R : PuPs t d] : PuE (tDisp t) (dDisp d) := ⟨fun S M σ δ H P Q w e h k p np => by
  have w1 : Wo (fun a => S a ∨ a = p) (mset M p (.dic [])) (upd H p (.dK [])) := w.mutable np ⟨[], upd_same, rfl, .nil⟩
  have t1 : Step S M H (fun a => S a ∨ a = p) (mset M p (.dic [])) (upd H p (.dK [])) := Step.mutable w np
  refine R.run _ _ σ δ _ _ _ w1 (e.step w t1) (h p (w.fresh np)) fun ps S2 M2 vs H2 p2 t2 w2 h3 h4 => ?_
  obtain ⟨hm, kvs, rfl, hl, nd, p3⟩ := p2
  rw [List.map_map] at h3 h4
  have ek : vs.map (·.1) = (kvs.map (·.1)).map kV := keys_of (by rw [List.map_map]; exact h3)
  have hlen : vs.length = kvs.length := by
    have := congrArg List.length ek
    rwa [List.length_map, List.length_map, List.length_map] at this
  obtain ⟨_, ws0, ha, hk0, _⟩ := w2.mem p _ hm
  have e0 : ws0 = [] := List.map_eq_nil_iff.mp hk0
  subst e0
  let ws : List (Key × V) := (kvs.map (·.1)).zip (vs.map (·.2))
  have wk : ws.map (·.1) = kvs.map (·.1) := by
    show ((kvs.map (·.1)).zip (vs.map (·.2))).map Prod.fst = _
    rw [List.map_fst_zip (by rw [List.length_map, List.length_map]; omega)]
  have wv : ws.map (·.2) = vs.map (·.2) := by
    show ((kvs.map (·.1)).zip (vs.map (·.2))).map Prod.snd = _
    rw [List.map_snd_zip (by rw [List.length_map, List.length_map]; omega)]
  have ev : vs = ws.map fun kv => (kV kv.1, kv.2) := by
    have e1 : (ws.map fun kv => (kV kv.1, kv.2)).map (·.1) = vs.map (·.1) := by
      rw [ek, ← wk, List.map_map, List.map_map]; rfl
    have e2 : (ws.map fun kv => (kV kv.1, kv.2)).map (·.2) = vs.map (·.2) := by
      rw [← wv, List.map_map]; rfl
    have two : ∀ {l m : List (V × V)}, l.map (·.1) = m.map (·.1) → l.map (·.2) = m.map (·.2) → l = m := by
      intro l
      induction l with
      | nil => intro m a b; cases m with
        | nil => rfl
        | cons => cases a
      | cons x l ih => intro m a b; cases m with
        | nil => cases a
        | cons y m =>
          rw [List.map_cons, List.map_cons, List.cons.injEq] at a b
          rw [ih a.2 b.2, Prod.ext a.1 b.1]
    exact (two e1 e2).symm
  have em : mergeK [] ws = ws := merge_apart ws [] (by rw [List.nil_append, wk]; exact nd)
  refine ⟨ha, ws, ev, by rw [← List.length_map (f := Prod.fst), wk, List.length_map]; exact hl, ?_⟩
  rw [em]
  refine k (.ptr p) S2 (mset M2 p (.dic kvs)) _ _ p3 ((t1.trans t2).trans (Step.change hm)) (w2.change hm ⟨ws, upd_same, wk, ?_⟩) (.ptr p)
  rw [wv]
  have h5 : DtA S2 H2 (vs.map (·.2)) (kvs.map (·.2)) := h4
  have ex : U.Ext S2 H2 (upd H2 p (.dK ws)) := Ext.mut (Ext.refl _) (w2.mem p _ hm).1
  exact h5.go ex⟩
end V
namespace V
open PySem PySem.Spec PyProof.Rows L2 U StX
/-- one text more -/
def met1 (l : List Str) (x : Str) : List Str := if x ∈ l then l else l ++ [x]
/-- the texts met, each once -/
def metS (ts : List Str) : List Str := ts.foldl met1 []
theorem met1_mem {l : List Str} {x y : Str} : y ∈ met1 l x ↔ y ∈ l ∨ y = x := by
  unfold met1
  split
  · rename_i c
    exact ⟨.inl, fun h => h.elim id fun e => e ▸ c⟩
  · rw [List.mem_append, List.mem_singleton]
theorem metS_snoc (ts : List Str) (x : Str) : metS (ts ++ [x]) = met1 (metS ts) x := by
  unfold metS
  rw [List.foldl_append]
  rfl
theorem snoc_ind {α : Type} {p : List α → Prop} (l : List α) (nil : p []) (snoc : ∀ l x, p l → p (l ++ [x])) : p l := by
  have : ∀ m : List α, p m.reverse := fun m => by
    induction m with
    | nil => exact nil
    | cons x m ih => rw [List.reverse_cons]; exact snoc _ _ ih
  rw [← List.reverse_reverse l]
  exact this _
theorem metS_mem : ∀ (ts : List Str) {y : Str}, y ∈ metS ts ↔ y ∈ ts := by
  intro ts
  induction ts using snoc_ind with
  | nil => intro y; exact Iff.rfl
  | snoc ts x ih =>
    intro y
    rw [metS_snoc, met1_mem, ih, List.mem_append, List.mem_singleton]
theorem metS_nodup : ∀ (ts : List Str), (metS ts).Nodup := by
  intro ts
  induction ts using snoc_ind with
  | nil => exact List.nodup_nil
  | snoc ts x ih =>
    rw [metS_snoc]
    unfold met1
    split
    · exact ih
    · rename_i c
      rw [List.nodup_append]
      refine ⟨ih, by simp, fun a ha b hb e => ?_⟩
      rw [List.mem_singleton] at hb
      exact c (hb ▸ e ▸ ha)
theorem metS_len (ts : List Str) : (metS ts).length ≤ ts.length := nodup_lenI _ _ (metS_nodup ts) fun x hx => (metS_mem ts).mp hx
section
variable {prog : Program} {w : World} {A : Around} {R : Result → Shared → Prop} {E : Value → Shared → Prop} {I : Addr} {fp wr : List Addr} {G : Array GenState → Array GenState → Prop} {n : Nat} {P : Nat → Value → Prop} {St : Nat → Shared → Prop}
/-- the texts of a walk go into the set at S -/
theorem set_turns (W : WalksS prog w A.in1 I fp wr G n P St) {S : Addr} (far : S ∉ fp) {ts : List Str} (hl : ts.length = n) (hv : ∀ i v, P i v → ∃ x t, ts[i]? = some x ∧ v = .str x t) (hb : n + 1 < scanBound) : ∀ (k i : Nat) (s : Shared), n - i = k → i ≤ n → St i s →
    s.heap.SetOf (PySem.strKind prog w) S (fun z => decide (z ∈ ts.take i)) (metS (ts.take i)).length →
    (∀ s', Moved (S :: wr) G s s' → s'.heap.SetOf (PySem.strKind prog w) S (fun z => decide (z ∈ ts)) (metS ts).length → R (.ok (.ret .none)) s') → codeAny (model prog w) A (.builtin "set.update.loop" ⟨[.ref S, .ref I], []⟩) R s
  | 0, i, s, hk, hi, st, so, q => by
    obtain rfl : i = n := by omega
    rw [List.take_of_length_le (by omega)] at so
    refine codeAny_builtin PyProof.Rows.F.entry_set_update_loop ?_; rw [Around.under_plainId PyProof.Rows.F.plain_set_update_loop _]; show wpAny (model prog w) A.in1 (pyNext (.ref I) >>= _) _ _ s
    refine wpAny_bind (W.done s _ _ st fun s' mv => (?_ : wpAny (model prog w) A.in1 (ret Value.none) _ _ s'))
    obtain ⟨o, es, ep, t, ho, r⟩ := so
    exact wpAny_pure (q s' (mv.mono fun b => List.mem_cons_of_mem _) ⟨o, es, ep, t, mv.heap S _ (fun z => far (W.sub _ z)) ho, r⟩)
  | k + 1, i, s, hk, hi, st, so, q => by
    have lt : i < n := by omega
    refine codeAny_builtin PyProof.Rows.F.entry_set_update_loop ?_; rw [Around.under_plainId PyProof.Rows.F.plain_set_update_loop _]; show wpAny (model prog w) A.in1 (pyNext (.ref I) >>= _) _ _ s
    refine wpAny_bind (W.item i s _ _ lt st fun v s' hp st' mv => ?_)
    obtain ⟨x, t, hx, rfl⟩ := hv i v hp
    have so' : s'.heap.SetOf (PySem.strKind prog w) S (fun z => decide (z ∈ ts.take i)) (metS (ts.take i)).length := by
      obtain ⟨o, es, ep, tb, ho, r⟩ := so
      exact ⟨o, es, ep, tb, mv.heap S _ (fun z => far (W.sub _ z)) ho, r⟩
    have et : ts.take (i + 1) = ts.take i ++ [x] := by rw [List.take_add_one, hx]; rfl
    have key : (PySem.strKind prog w).is x (.str x t) = true := strKind_is prog w x t
    have sm := metS_len (ts.take i)
    rw [List.length_take] at sm
    show wpAny _ A.in1 (holding [Value.str x t] (setAdd S (.str x t)) >>= _) _ _ s'
    refine wpAny_bind (wpAny_holding ?_)
    unfold setAdd
    refine wpAny_holding (wpAny_bind ((PySem.strKind prog w).pyHash key (wpAny_setAddHashed_of (knd := PySem.strKind prog w) (s := { s' with toks := s'.toks + 1 }) key rfl so' (by omega) fun h' sb s2 => ?_)))
    have s3 : h'.SetOf (PySem.strKind prog w) S (fun z => decide (z ∈ ts.take (i + 1))) (metS (ts.take (i + 1))).length := by
      refine PyProof.Rows.SetOf_congr s2 (fun z => ?_) ?_
      · rw [et, ← Bool.decide_or]
        exact decide_eq_decide.mpr (by rw [List.mem_append, List.mem_singleton])
      · rw [et, metS_snoc]
        unfold met1
        simp only [metS_mem, decide_eq_true_eq]
        split
        · rfl
        · rw [List.length_append, List.length_singleton]
    refine wpAny_pure ⟨plainId_quiet PyProof.Rows.F.plain_set_update_loop _, set_turns W far hl hv hb k (i + 1) _ (by omega) lt (W.frame _ s' _ _ st' (Nat.le_succ _) fun b hm o e => (sb.2 b (fun z => far (z ▸ hm))).trans e) s3 fun s'' mw so2 => ?_⟩
    exact q s'' (Moved.trans W.gtrans ((mv.mono fun b => List.mem_cons_of_mem _).then_heap (Nat.le_succ _) fun b o hm e => (sb.2 b (fun z => hm (by rw [z]; exact List.mem_cons_self))).trans e) mw) so2
end
section
variable {prog : Program} {w : World} {A : Around} {E : Value → Shared → Prop} {s : Shared}
set_option maxHeartbeats 6400000 in
/-- set(x) of texts, x a list or a tuple -/
theorem call_setT {l nl : Nat} {T : String} {dd : Option Addr} {sl : Array (Option Value)} {items : Array Value} {it : Obj} {St : Addr → Nat → Shared → Prop} {ts : List Str} {Q : Value → Shared → Prop} (hh : A.handled = none)
    (ho : s.heap.get? l = some { cls := .type T, dict := dd, data := .seq items nl, slots := sl }) (notD : (Value.type T == Value.type "dict") = false) (notS : isSubtype (.type T) (.type "set") = pure false) (notF : isSubtype (.type T) (.type "frozenset") = pure false)
    (pit : ∀ (A : Around) (E : Value → Shared → Prop) (Q : Value → Shared → Prop) (s' : Shared), s'.heap.get? l = some { cls := .type T, dict := dd, data := .seq items nl, slots := sl } → Q (.ref s'.heap.objs.size) { s' with heap := s'.heap.push it } → wpAny (model prog w) A (pyIter (.ref l)) Q E s')
    (W : ∀ (A : Around) (I : Addr), A.handled = none → l ≠ I → WalksS prog w A I [I, l] [I] (fun a b => b = a) items.size (fun i v => items[i]? = some v) (St I))
    (st : ∀ s' : Shared, s'.heap.get? l = some { cls := .type T, dict := dd, data := .seq items nl, slots := sl } → St s'.heap.objs.size 0 { s' with heap := s'.heap.push it })
    (hz : ts.length = items.size) (hv : ∀ (i : Nat) v, items[i]? = some v → ∃ x t, ts[i]? = some x ∧ v = .str x t) (hb : items.size + 1 < scanBound)
    (h : ∀ (h' : Heap) (tk : Nat), h'.SetOf (PySem.strKind prog w) s.heap.objs.size (fun z => decide (z ∈ ts)) (metS ts).length → (∀ b o, b < s.heap.objs.size → s.heap.get? b = some o → h'.get? b = some o) → Q (.ref s.heap.objs.size) { s with heap := h', toks := tk }) :
    wpAny (model prog w) A (call (.type "set") [.ref l]) Q E s := by
  obtain ⟨c, tl, mro⟩ := PySem.F.called_set.mro; have made := PySem.F.called_set.made; have sub := PySem.F.called_set.sub
  refine wpAny_call (codeAny_of_tree (?_ : wpAny _ _ (callAny (.type "set") _) _ _ _))
  refine wpAny_pure ⟨Code.quiet_builtin _ (by decide +kernel), codeAny_builtin PySem.F.entry_type_call ?_⟩; rw [Around.under_plain (weight_type_call_type "set" [.ref l] []) rfl]
  have n1 := PySem.F.called_set.notType; have n2 := PySem.F.called_set.canCreate; have n3 := PySem.F.typeCall_set_1 (.ref l)
  (repeat any_goals (first | assumption | wp_step))
  refine codeAny_mono (PySem.code_set_new_1 (.ref l) (E := E) (Q₁ := fun ob s1 => ∃ led : Bool, ob = .ref s.heap.objs.size ∧ s1 = { s with heap := s.heap.push { cls := .type "set", dict := none, data := .set #[] 0 (.fresh 0 0 led) } }) fun led => ⟨led, rfl, rfl⟩) fun r s1 hr => ?_
  match r, hr with
  | .error e, hr => exact hr
  | .ok .next, hr => exact hr.elim
  | .ok .brk, hr => exact hr.elim
  | .ok .cont, hr => exact hr.elim
  | .ok (.ret ob), ⟨led, e1, e2⟩ =>
    subst e1; subst e2
    have gS : (s.heap.push { cls := .type "set", dict := none, data := .set #[] 0 (.fresh 0 0 led) }).get? s.heap.objs.size = some { cls := .type "set", dict := none, data := .set #[] 0 (.fresh 0 0 led) } := Heap.get?_push_size _ rfl
    have tS : Shared.TypeIs { s with heap := s.heap.push { cls := .type "set", dict := none, data := .set #[] 0 (.fresh 0 0 led) } } (.ref s.heap.objs.size) "set" := ⟨_, gS, rfl⟩
    have i1 := PySem.F.called_set.init.lookup; have i2 := PySem.F.called_set.init.bind (.ref s.heap.objs.size)
    (repeat any_goals (first | assumption | wp_step))
    refine codeAny_mono (codeAny_call_builtin (R := wants (fun r s2 => r = .none ∧ ∃ h' tk, s2 = { s with heap := h', toks := tk } ∧ h'.SetOf (PySem.strKind prog w) s.heap.objs.size (fun z => decide (z ∈ ts)) (metS ts).length ∧ (∀ b o, b < s.heap.objs.size → s.heap.get? b = some o → h'.get? b = some o)) E) PySem.F.called_set.init.plain PySem.F.entry_set_init (PySem.check_set_init_1 tS ?_)) fun r2 s2 hr2 => ?_
    · have ho1 : (s.heap.push { cls := .type "set", dict := none, data := .set #[] 0 (.fresh 0 0 led) }).get? l = some { cls := .type T, dict := dd, data := .seq items nl, slots := sl } := Heap.get?_push_of_some _ ho
      unfold Builtin.«set.__init__» noKeywords Builtin.Frozenset.updateFrom
      generalize ePI : pyIter = PI
      wp_walk
      subst ePI
      refine pit _ _ _ _ ho1 (wpAny_bind (wpAny_runValue ?_))
      have old : l < s.heap.objs.size := Heap.lt_size ho
      have sz : (s.heap.push { cls := .type "set", dict := none, data := .set #[] 0 (.fresh 0 0 led) }).objs.size = s.heap.objs.size + 1 := Heap.size_push ..
      have ne1 : l ≠ (s.heap.push { cls := .type "set", dict := none, data := .set #[] 0 (.fresh 0 0 led) }).objs.size := by rw [sz]; omega
      have far : s.heap.objs.size ∉ [(s.heap.push { cls := .type "set", dict := none, data := .set #[] 0 (.fresh 0 0 led) }).objs.size, l] := by
        rw [sz]; simp only [List.mem_cons, List.not_mem_nil, or_false, not_or]; omega
      refine set_turns (W _ _ (by simp [hh]) ne1) far hz hv hb (items.size - 0) 0 _ rfl (Nat.zero_le _) (st { s with heap := s.heap.push { cls := .type "set", dict := none, data := .set #[] 0 (.fresh 0 0 led) } } ho1) ?_ ?_
      · refine PyProof.Rows.SetOf_congr ((PyProof.Rows.setObjOf_fresh (knd := PySem.strKind prog w) led).setOf (Heap.get?_push_of_some _ gS) (by unfold scanBound; omega)) (fun z => ?_) rfl
        simp
      · intro s' mv so
        obtain ⟨h', g', d', tk', os'⟩ := s'
        obtain rfl : g' = s.gens := mv.gens
        obtain rfl : d' = s.drawn := mv.drawn
        obtain rfl : os' = s.os := mv.os
        show wpAny _ _ _ _ _ _; refine wpAny_pure ?_; show wpAny _ _ (ret Value.none) _ _ _
        refine wpAny_pure ⟨rfl, h', tk', rfl, so, fun b o hb' e => mv.heap b o ?_ (Heap.get?_push_of_some _ (Heap.get?_push_of_some _ e))⟩
        simp only [List.mem_cons, List.not_mem_nil, or_false, not_or]; exact ⟨Nat.ne_of_lt hb', Nat.ne_of_lt (by rw [sz]; exact Nat.lt_succ_of_lt hb')⟩
    · match r2, hr2 with
      | .error e, hr2 => exact hr2
      | .ok .next, hr2 => exact hr2.elim
      | .ok .brk, hr2 => exact hr2.elim
      | .ok .cont, hr2 => exact hr2.elim
      | .ok (.ret r), ⟨e1, h', tk, e2, so, keep⟩ =>
        subst e1; subst e2
        (repeat any_goals (first | assumption | wp_step))
        exact h _ _ so keep
end
theorem strs_item {ts : List Str} {its : List Value} (r : Vals (ts.map V.str) its) : ts.length = its.toArray.size ∧ ∀ (i : Nat) v, its.toArray[i]? = some v → ∃ x t, ts[i]? = some x ∧ v = .str x t := by
  have el := r.length
  rw [List.length_map] at el
  have ez : its.toArray.size = its.length := by rw [List.size_toArray]
  refine ⟨by omega, fun i v hv => ?_⟩
  rw [List.getElem?_toArray] at hv
  have hi : i < ts.length := by
    have := (List.getElem?_eq_some_iff.mp hv).1
    omega
  obtain ⟨u, hu, ru⟩ := r.get (i := i) (x := V.str ts[i]) (by rw [List.getElem?_map, List.getElem?_eq_getElem hi]; rfl)
  rw [hv] at hu
  cases hu
  obtain ⟨t, rfl⟩ := ru
  exact ⟨ts[i], t, List.getElem?_eq_getElem hi, rfl⟩
def tLenSetS (K : PySem.W.Frag) (ta : TE) : TE := fun σ H Q => ta σ H fun x H1 => ∃ l ts, x = V.ref l ∧ (SqL K H1 l (ts.map V.str) ∨ SqT K H1 l (ts.map V.str)) ∧ ts.length ≤ 4000 ∧ Q (V.int ((metS ts).length : Nat)) H1
theorem pe_lenSetS {X : Cx} {K : PySem.W.Frag} {x : Expr} {tx : TE} {p1 p2 p3 p4 : Pos} (hK : X.K = K) (g1 : Gl X "len") (m1 : X.mg "len" = none) (g2 : Gl X "set") (m2 : X.mg "set" = none) (hx : PE X x tx)
    (hc : X.calm = true := by rfl) (ns1 : starEach [x] X.env = (false, eval x X.env) :: starEach [] X.env := by rfl) : PE X (.Call (.Name "len" p1) [.Call (.Name "set" p2) [x] [] p3] [] p4) (tLenSetS K tx) := by
  subst hK
  constructor
  intro pins s σ H Q I h
  apply Call_ (ld_blt I g1 m1 boot_len _)
  apply callWith_builtin1 (args_cons _ rfl) rfl rfl
  apply Call_ (ld_blt I g2 m2 boot_set _)
  refine callWith_type1 (args_cons (thn (hx.run pins s σ H _ I h) fun u s1 hu => args_nil ?_) ns1) ns1 rfl
  obtain ⟨y, H1, I1, ry, l, ts, rfl, hs, hn, q⟩ := hu
  obtain rfl : u = .ref l := ry
  have fin : ∀ (h' : Heap) (tk : Nat), h'.SetOf (PySem.strKind X.prog X.w) s1.heap.objs.size (fun z => decide (z ∈ ts)) (metS ts).length → (∀ b o, b < s1.heap.objs.size → s1.heap.get? b = some o → h'.get? b = some o) →
      wpAny (model X.prog X.w) X.A (spliced (backTo p4 (starEach [] X.env))) (fun vs s₂ => wpAny (model X.prog X.w) X.A (call (.builtin "len") (Value.ref s1.heap.objs.size :: vs)) (EP X pins σ Q) X.xe s₂) X.xe { s1 with heap := h', toks := tk } := fun h' tk so keep => args_nil (by
    obtain ⟨ob, es, ep, tb, e1, e2, e3, _, _, _, e4, e5⟩ := so
    have J := I1.kept (t' := tk) (h' := h') fun b o e => keep b o (Heap.lt_size e) e
    have small := metS_len ts
    exact call_len_set e1 e2 e3 e4 (by rw [e5]; omega) ⟨.int ((metS ts).length : Nat), H1, J.tok _, ⟨_, by rw [e5]⟩, q⟩)
  rcases hs with hs | hs
  · obtain ⟨its, r, pl, _⟩ := I1.list hs
    obtain ⟨⟨cls, dd, dt, sl⟩, ho, hcl, nl, hd⟩ := pl.isList
    simp only at hcl hd
    subst hcl
    subst hd
    obtain ⟨z1, z2⟩ := strs_item r
    exact call_setT (it := { cls := .type "list_iterator", data := .fields #[.ref l, .int 0 0] }) (St := fun I i s => s.heap.IsListIter I l i ∧ s.heap.IsList l its.toArray) (I1.ok.hd hc) ho (by decide) PySem.F.sub_list_set PySem.F.sub_list_frozenset
      (fun A E Q s' g q => wpAny_pyIter_list ⟨_, g, rfl, _, rfl⟩ q) (fun A I hA ne => (Walks.list hA I l ne its.toArray).toS) (fun s' g => ⟨⟨_, Heap.get?_push_size _ rfl, rfl, rfl⟩, ⟨_, Heap.get?_push_of_some _ g, rfl, _, rfl⟩⟩) z1 z2 (by unfold scanBound; omega) fun h' tk so keep => fin h' tk so keep
  · obtain ⟨its, r, pl, _⟩ := I1.tuple hs
    obtain ⟨⟨cls, dd, dt, sl⟩, ho, hcl, nl, hd⟩ := pl
    simp only at hcl hd
    subst hcl
    subst hd
    obtain ⟨z1, z2⟩ := strs_item r
    exact call_setT (it := { cls := .type "tuple_iterator", data := .fields #[.ref l, .int 0 0] }) (St := fun I i s => s.heap.IsTupleIter I l i ∧ s.heap.IsTuple l its.toArray) (I1.ok.hd hc) ho (by decide) PySem.F.sub_tuple_set PySem.F.sub_tuple_frozenset
      (fun A E Q s' g q => wpAny_pyIter_tuple ⟨_, g, rfl, _, rfl⟩ q) (fun A I hA ne => (Walks.tuple hA I l ne its.toArray).toS) (fun s' g => ⟨⟨_, Heap.get?_push_size _ rfl, rfl, rfl⟩, ⟨_, Heap.get?_push_of_some _ g, rfl, _, rfl⟩⟩) z1 z2 (by unfold scanBound; omega) fun h' tk so keep => fin h' tk so keep
def dLenSetS (a : DE) : DE := fun δ M P => a δ M fun x M1 => ∃ ts : List Str, (isLs M1 x (ts.map D.str) ∨ x = .tup (ts.map D.str)) ∧ ts.length ≤ 4000 ∧ P (.int ((metS ts).length : Nat)) M1
instance pu_lenSetS {K : PySem.W.Frag} {ta : TE} {da : DE} [A : PuE ta da] : PuE (tLenSetS K ta) (dLenSetS da) := ⟨fun S M σ δ H P Q w e h k =>
  A.run S M σ δ H _ _ w e h fun d S1 M1 v H1 p1 t1 w1 h1 => by
    obtain ⟨ts, h2, hn, p1⟩ := p1
    rcases h2 with h2 | rfl
    · obtain ⟨a, us, rfl, ha, hs⟩ := ls_get w1 h1 h2
      have eu := hs.strs_eq
      subst eu
      exact ⟨a, ts, rfl, .inl (SqL.of ha), hn, k _ S1 M1 _ H1 p1 t1 w1 (.int _)⟩
    · cases h1 with
      | tup n ha hs =>
        have eu := hs.strs_eq
        subst eu
        exact ⟨_, ts, rfl, .inr (SqT.of ha), hn, k _ S1 M1 _ H1 p1 t1 w1 (.int _)⟩⟩
theorem x_lenSetS {a : DE} {δ : Dl} {M : Mem} {P : QD} (h : a δ M fun x M1 => ∃ ts : List Str, (isLs M1 x (ts.map D.str) ∨ x = .tup (ts.map D.str)) ∧ ts.length ≤ 4000 ∧ P (.int ((metS ts).length : Nat)) M1) : dLenSetS a δ M P := h
theorem lc_run {J : It} {G : Mem → Prop} {g : TG} {t : TT} {ta : TE} {dg : DG} {dt : DT} {da : DE} {sl vs : List Nat} [A : PuG g dg sl] [sub : SubL sl vs] [T : PuT t dt] [B : PuE ta da] {S1 : Addr → Prop} {M1 : Mem} {H1 : Hp} {xs : List D} {σ : L2.St} {δ : Dl} {P : QD} {Q : VK}
    (wk : Walks J G S1 M1 H1 xs) (w1 : Wo S1 M1 H1) (e1 : En S1 H1 σ δ) (g1 : G M1) (hn : xs.length ≤ 16777216) (p1 : dGather G dg dt da vs δ P xs [] M1) (k : ∀ d S' M' v H', P d M' → Step S1 M1 H1 S' M' H' → Wo S' M' H' → Dt S' H' v d → Q v H') :
    tLc (fun _ H R => R J H) g t ta vs σ H1 Q := by
  intro D0 hD
  let Iv : Nat → Hp → Prop := fun i H' => ∃ S' M' acc ws, G M' ∧ dGather G dg dt da vs δ P (xs.drop i) acc M' ∧ Step S1 M1 H1 S' M' H' ∧ Wo S' M' H' ∧ En S' H' σ δ ∧ S' D0 ∧ M' D0 = none ∧ H' D0 = some (.lst ws) ∧ DtA S' H' ws acc ∧ acc.length ≤ i
  refine ⟨fun i m H' => i ≤ xs.length ∧ m = xs.length - i ∧ Iv i H', ⟨_, Nat.zero_le _, rfl, (fun a => S1 a ∨ a = D0), M1, [], [], g1, p1, .apart hD, w1.apart hD, e1.step w1 (.apart hD), .inr rfl, w1.fresh hD, upd_same, .nil, Nat.zero_le _⟩, ?_⟩
  rintro i m H2 ⟨hi, rfl, S2, M2, acc, ws, g2, p2, t2, w2, e2, sD, mD, hL, hA, hlen⟩
  by_cases hlt : i < xs.length
  · refine .inr ⟨wk.go i S2 M2 H2 hlt t2 w2 g2, Iv (i + 1), fun H' q => ⟨_, by omega, hlt, rfl, q⟩, ?_⟩
    intro x H3 y
    obtain ⟨same, d, hd, hx⟩ := wk.yld i S2 M2 H2 x H3 hlt t2 w2 g2 y
    rw [drop_cons hd] at p2
    have t3 : Step S2 M2 H2 S2 M2 H3 := .same same
    have w3 := w2.same same
    have e3 := e2.step w2 t3
    refine A.run S2 M2 _ _ H3 x d _ _ w3 (e3.wipe vs) hx p2 fun δ4 S4 M4 σ4 H4 p4 t4 w4 e4 o4 => ⟨by rw [o4 vs sub.h, wipe_wipe], ?_⟩
    refine T.run S4 M4 σ4 δ4 H4 _ _ w4 e4 p4 fun b S5 M5 H5 p5 t5 w5 => ?_
    have t25 := (t3.trans t4).trans t5
    obtain ⟨hL5, mD5, sD5⟩ := t25.keep _ _ mD hL
    have hA5 := dtA_step w2 t25 _ hA
    cases b with
    | true =>
      rw [if_pos rfl] at p5 ⊢
      refine B.run S5 M5 σ4 δ4 H5 _ _ w5 (e4.step w4 t5) p5 fun y S6 M6 v H6 p6 t6 w6 h6 => ?_
      obtain ⟨hL6, mD6, sD6⟩ := t6.keep _ _ mD5 hL5
      have hA6 := dtA_step w5 t6 _ hA5
      have sd : S6 D0 := sD6.mpr (sD5.mpr sD)
      have ex : Ext S6 H6 (upd H6 D0 (.lst (ws ++ [v]))) := Ext.mut (Ext.refl _) sd
      refine ⟨ws, hL6, by rw [hA.length]; exact Nat.lt_of_le_of_lt hlen (Nat.lt_of_lt_of_le hlt (by rw [sizeLine_eq]; exact hn)), S6, M6, acc ++ [y], ws ++ [v], p6.1, p6.2, ?_, ?_, ?_, sd, mD6, upd_same, (hA6.snoc h6).go ex, by rw [List.length_append, List.length_singleton]; omega⟩
      · have t16 := (t2.trans t25).trans t6
        refine ⟨fun b o n hb => ?_⟩
        obtain ⟨q1, q2, q3⟩ := t16.keep b o n hb
        exact ⟨(upd_ne (ne_of_none hb hD)).trans q1, q2, q3⟩
      · refine ⟨fun a s => ?_, fun a mo q => ?_⟩
        · by_cases c : a = D0
          · rw [c, upd_same]; exact fun z => nomatch z
          · rw [upd_ne c]; exact w6.tr a s
        · obtain ⟨s, q2⟩ := w6.mem a mo q
          have c : a ≠ D0 := by rintro rfl; rw [mD6] at q; cases q
          exact ⟨s, held_ext ex (fun u hu => (upd_ne c).trans hu) q2⟩
      · have e6 : En S6 H6 σ δ := e3.step w3 ((t4.trans t5).trans t6)
        exact ⟨e6.len, fun i d h => by
          obtain ⟨v, h1, h2⟩ := e6.at_ i d h
          exact ⟨v, h1, h2.go ex⟩⟩
    | false =>
      rw [if_neg Bool.false_ne_true] at p5 ⊢
      exact ⟨S5, M5, acc, ws, p5.1, p5.2, t2.trans t25, w5, e2.step w2 t25, sD5.mpr sD, mD5, hL5, hA5, by omega⟩
  · have ei : i = xs.length := by omega
    subst ei
    rw [List.drop_length] at p2
    refine .inl ⟨wk.stop S2 M2 H2 t2 w2 g2, k _ (fun a => S2 a ∧ a ≠ D0) M2 _ H2 p2 ⟨fun b o n hb => ?_⟩ ⟨fun a s => w2.tr a s.1, fun a mo q => ?_⟩ (.lst (fun z => z.2 rfl) hL (dtA_freeze hA))⟩
    · obtain ⟨q1, q2, q3⟩ := t2.keep b o n hb
      have c := ne_of_none hb hD
      exact ⟨q1, q2, ⟨fun z => q3.mp z.1, fun z => ⟨q3.mpr z, c⟩⟩⟩
    · obtain ⟨s, q2⟩ := w2.mem a mo q
      have c : a ≠ D0 := by rintro rfl; rw [mD] at q; cases q
      exact ⟨⟨s, c⟩, held_set (fun b n _ z => n z.1) q2⟩
theorem mdel_none {M : Mem} {p : Addr} : mdel M p p = none := if_pos rfl
theorem mdel_ne {M : Mem} {a p : Addr} (h : a ≠ p) : mdel M p a = M a := if_neg h
/-- [.. for x in d.values()] -/
def dLcV (a : DE) (g : DG) (t : DT) (e : DE) (vs : List Nat) : DE := fun δ M P => ∃ p kvs, M p = some (.dic kvs) ∧ a δ (mdel M p) fun x M1 => x = .ptr p ∧ kvs.length ≤ 16777216 ∧ dGather (fun _ => True) g t e vs δ (fun d M' => P d (mset M' p (.dic kvs))) (kvs.map (·.2)) [] M1
instance pu_lcV {td : TE} {g : TG} {t : TT} {ta : TE} {dd : DE} {dg : DG} {dt : DT} {da : DE} {sl vs : List Nat} [A : PuE td dd] [B : PuG g dg sl] [sub : SubL sl vs] [C : PuT t dt] [E : PuE ta da] : PuE (tLockE (tLc (iVals td) g t ta vs)) (dLcV dd dg dt da vs) := ⟨fun S M σ δ H P Q w e h k => by
  obtain ⟨p, kvs, hm, h⟩ := h
  obtain ⟨sp, ws, ha, hk, hs⟩ := w.mem p _ hm
  refine ⟨p, .dK ws, ha, trivial, fun od => ?_⟩
  have ex : Ext S H (upd H p (.frz od (.dK ws))) := Ext.mut (Ext.refl _) sp
  have w0 : Wo S (mdel M p) (upd H p (.frz od (.dK ws))) := ⟨fun a s => by
    by_cases c : a = p
    · rw [c, upd_same]; exact fun z => nomatch z
    · rw [upd_ne c]; exact w.tr a s, fun a mo q => by
    have c : a ≠ p := by rintro rfl; rw [mdel_none] at q; cases q
    rw [mdel_ne c] at q
    obtain ⟨s, q2⟩ := w.mem a mo q
    exact ⟨s, held_ext ex (fun u hu => (upd_ne c).trans hu) q2⟩⟩
  have e0 : En S (upd H p (.frz od (.dK ws))) σ δ := ⟨e.len, fun i d h => by
    obtain ⟨v, h1, h2⟩ := e.at_ i d h
    exact ⟨v, h1, h2.go ex⟩⟩
  refine A.run S _ σ δ _ _ _ w0 e0 h fun x S1 M1 v H1 p1 t1 w1 h1 => ?_
  obtain ⟨rfl, hn, p1⟩ := p1
  cases h1
  obtain ⟨f1, m1, s1⟩ := t1.keep p _ mdel_none upd_same
  refine ⟨p, od, ws, rfl, f1, ?_⟩
  have hs1 : DtA S1 H1 (ws.map (·.2)) (kvs.map (·.2)) := dtA_step w0 t1 _ (hs.go ex)
  have el : ws.length = kvs.length := len_held hk
  have wk : Walks (Itd p od ws) (fun _ => True) S1 M1 H1 (kvs.map (·.2)) :=
    ⟨fun S' M' H' t' w' _ => ⟨(t'.keep p _ m1 f1).1, by rw [List.length_map]; omega⟩, fun i S' M' H' hi t' w' _ => ⟨(t'.keep p _ m1 f1).1, by rw [List.length_map] at hi; omega⟩, fun i S' M' H' x H2 hi t' w' _ y => by
      obtain ⟨rfl, key, hy⟩ := y
      obtain ⟨d, e1, e2⟩ := (dtA_step w1 t' _ hs1).getV (i := i) (v := x) (by rw [List.getElem?_map, hy]; rfl)
      exact ⟨Same.refl _, d, e1, e2⟩⟩
  refine lc_run (Q := fun v H' => H' p = some (.frz od (.dK ws)) ∧ Q v (upd H' p (.dK ws))) (ta := ta) (t := t) (g := g) (vs := vs) (δ := δ) wk w1 (e0.step w0 t1) trivial (by rw [List.length_map]; exact hn) p1 fun d S' M' v H' q t' w' hv => ?_
  obtain ⟨f2, m2, s2⟩ := t'.keep p _ m1 f1
  have sp' : S' p := s2.mpr (s1.mpr sp)
  have ex' : Ext S' H' (upd H' p (.dK ws)) := Ext.mut (Ext.refl _) sp'
  refine ⟨f2, k d S' _ v _ q ⟨fun b o n hb => ?_⟩ ⟨fun a s => ?_, fun a mo q2 => ?_⟩ (hv.go ex')⟩
  · have c : b ≠ p := by rintro rfl; rw [hm] at n; cases n
    obtain ⟨q1, q2, q3⟩ := (t1.trans t').keep b o ((mdel_ne c).trans n) ((upd_ne c).trans hb)
    exact ⟨(upd_ne c).trans q1, (mset_ne c).trans q2, q3⟩
  · by_cases c : a = p
    · rw [c, upd_same]; exact fun z => nomatch z
    · rw [upd_ne c]; exact w'.tr a s
  · by_cases c : a = p
    · subst c
      rw [mset_same] at q2
      cases q2
      exact ⟨sp', ws, upd_same, hk, (dtA_step w1 t' _ hs1).go ex'⟩
    · rw [mset_ne c] at q2
      obtain ⟨s, q3⟩ := w'.mem a mo q2
      exact ⟨s, held_ext ex' (fun u hu => (upd_ne c).trans hu) q3⟩⟩
end V
namespace V
open PySem PySem.Spec PyProof.Rows L2 U StX
end V
namespace V
open PySem PySem.Spec PyProof.Rows L2 U StX
section
variable {X : Cx} {pins : List (Addr × Obj)} {σ : L2.St} {H : Hp} {s : Shared} {n : Nat} {f : Addr} {fd : FuncData} {ps : List Str} {sp : Sp} {a C : Addr} {y : V} {v : Value} {Q : VK}
/-- what the other thing may be -/
inductive Oth (C : Addr) (H : Hp) : V → Value → Prop
  | non : Oth C H .non (.type "NoneType")
  | str (x : Str) : Oth C H (.str x) (.type "str")
  | tup {b : Addr} {xs : List V} : H b = some (.tup xs) → Oth C H (.ref b) (.type "tuple")
  | ins {b dx : Addr} {fs : List (Str × V)} : H b = some (.ins C dx fs) → Oth C H (.ref b) (.ref C)
/-- the K's word on the other thing's class -/
structure NoSub (K : PySem.W.Frag) (C : Addr) : Prop where
  non : PySem.W.subIn K (.type "NoneType") (.ref C) = some false
  str : PySem.W.subIn K (.type "str") (.ref C) = some false
  tup : PySem.W.subIn K (.type "tuple") (.ref C) = some false
/-- x == y, x an instance with an __eq__ of its own -/
def rEqOwn (C : Addr) (sp : Sp) : R2 := fun x y H Q => ∃ a dx fs tb, x = V.ref a ∧ H a = some (.ins C dx fs) ∧ Oth C H y tb ∧ sp [.ref a, y] H (fun v H' => ∃ t, v = V.bl t ∧ Q (.bl t) H') L2.E0
/-- None in xs, each of xs an instance that is not equal to None -/
def rInOwn (C : Addr) (sp : Sp) : R2 := fun x y H Q => ∃ l xs, x = V.non ∧ y = V.ref l ∧ ∃ W : Nat → Hp → Prop, W 0 H ∧ ∀ i H', W i H' → H' l = some (.lst xs) ∧ (xs.length ≤ i → Q (.bl false) H') ∧
  ∀ z, xs[i]? = some z → ∃ a dx fs, z = V.ref a ∧ H' a = some (.ins C dx fs) ∧ sp [.ref a, .non] H' (fun v H2 => ∃ t, v = V.bl t ∧ (V.bl t = V.bl false ∧ W (i + 1) H2)) L2.E0
end
def rEqOwnD (C : Addr) (sp : DC) : DR := fun x y M P => ∃ n1 x1, x = .ins C n1 x1 ∧ (y = .non ∨ (∃ z, y = .str z) ∨ (∃ ys, y = .tup ys) ∨ ∃ n2 x2, y = .ins C n2 x2) ∧ sp [x, y] M fun d M' => ∃ t, d = .bl t ∧ P (.bl t) M'
instance op_eqOwnD {C : Addr} {sp : DC} : OpD (rEqOwn C (lift sp)) (rEqOwnD C sp) := ⟨fun S M H x y dx dy P Q w hx hy h k => by
  obtain ⟨n1, x1, rfl, hyk, h⟩ := h
  have gx := hx
  have gy := hy
  have fin : ∀ {a : Addr}, Dt S H (.ref a) (.ins C n1 x1) → lift sp [.ref a, y] H (fun v H' => ∃ t, v = V.bl t ∧ Q (.bl t) H') L2.E0 := fun {a} ha => ⟨S, M, _, _, w, .cons ha (.cons gy .nil), h, fun d S' M' v H' p t w' hv => by
    obtain ⟨b, rfl, p⟩ := p
    cases hv
    exact ⟨b, rfl, k _ S' M' _ H' p t w' (.bl _)⟩⟩
  cases hx with
  | ins _ ha _ _ =>
    rcases hyk with rfl | ⟨z, rfl⟩ | ⟨ys, rfl⟩ | ⟨n2, x2, rfl⟩
    · cases hy
      exact ⟨_, _, _, _, rfl, ha, .non, fin gx⟩
    · cases hy
      exact ⟨_, _, _, _, rfl, ha, .str z, fin gx⟩
    · cases hy with
      | tup _ hb _ => exact ⟨_, _, _, _, rfl, ha, .tup hb, fin gx⟩
    · cases hy with
      | ins _ hb _ _ => exact ⟨_, _, _, _, rfl, ha, .ins hb, fin gx⟩⟩
/-- each is asked whether it is None, and says no -/
def dAskAll (C : Addr) (sp : DC) (P : QD) : List D → Mem → Prop
  | [], M => P (.bl false) M
  | d :: ds, M => (∃ n x, d = .ins C n x) ∧ sp [d, .non] M fun v M' => v = .bl false ∧ dAskAll C sp P ds M'
def rInOwnD (C : Addr) (sp : DC) : DR := fun x y M P => ∃ ds, x = .non ∧ y = .lst ds ∧ dAskAll C sp P ds M
instance op_inOwnD {C : Addr} {sp : DC} : OpD (rInOwn C (lift sp)) (rInOwnD C sp) := ⟨fun S M H x y dx dy P Q w hx hy h k => by
  obtain ⟨ds, rfl, rfl, h⟩ := h
  cases hx
  cases hy with
  | @lst l xs _ hn ha hs =>
    refine ⟨l, xs, rfl, rfl, fun i H' => ∃ S' M', Step S M H S' M' H' ∧ Wo S' M' H' ∧ dAskAll C sp P (ds.drop i) M', ⟨S, M, .refl, w, h⟩, ?_⟩
    rintro i H' ⟨S', M', t, w', q⟩
    have hl := dt_step w t _ (Dt.lst hn ha hs)
    cases hl with
    | lst hn' ha' hs' =>
      obtain ⟨e1, _, _⟩ := t.keep _ _ (w.mn hn) ha
      rw [ha'] at e1
      cases e1
      have el := hs'.length
      refine ⟨ha', fun c => ?_, fun z hz => ?_⟩
      · rw [List.drop_of_length_le (by omega)] at q
        exact k _ S' M' _ H' q t w' (.bl _)
      · obtain ⟨d, hd, hv⟩ := hs'.getV hz
        rw [drop_cons hd] at q
        obtain ⟨⟨n1, x1, rfl⟩, q⟩ := q
        have gv := hv
        cases hv with
        | ins _ hb _ _ =>
          refine ⟨_, _, _, rfl, hb, S', M', _, _, w', .cons gv (.cons .non .nil), q, fun d' S2 M2 v H2 p t2 w2 hv2 => ?_⟩
          obtain ⟨rfl, p⟩ := p
          cases hv2
          exact ⟨false, rfl, rfl, S2, M2, t.trans t2, w2, p⟩⟩
def tKGet (l : List (Str × Int)) (te : TE) : TE := fun σ H Q => te σ H fun y H1 => ∃ p ∈ l, y = .str p.1 ∧ Q (.int p.2) H1
def dKGet (l : List (Str × Int)) (e : DE) : DE := fun δ M P => e δ M fun y M1 => ∃ p ∈ l, y = .str p.1 ∧ P (.int p.2) M1
instance pu_kget {l : List (Str × Int)} {te : TE} {de : DE} [A : PuE te de] : PuE (tKGet l te) (dKGet l de) := ⟨fun S M σ δ H P Q w e h k =>
  A.run S M σ δ H _ _ w e h fun x S1 M1 v1 H1 p1 t1 w1 h1 => by
    obtain ⟨p, hp, rfl, p1⟩ := p1
    cases h1
    exact ⟨p, hp, rfl, k _ S1 M1 _ H1 p1 t1 w1 (.int _)⟩⟩
end V
namespace V
open PySem PySem.Spec PyProof.Rows L2 U StX
def rRepM : R2 := rRep
def rRepM1 : DR := fun x y M P => ∃ xs k, isLs M x xs ∧ y = .int k ∧ -(2 ^ 63) ≤ k ∧ k < 2 ^ 63 ∧ xs.length * k.toNat ≤ sizeLine ∧ ∀ a, M a = none → P (.ptr a) (mset M a (.lst (List.replicate k.toNat xs).flatten))
instance op_repM1 : OpD rRepM rRepM1 := ⟨fun S M H x y dx dy P Q w hx hy h k => by
  obtain ⟨xs, i, hl, rfl, h1, h2, h3, h⟩ := h
  obtain ⟨a, vs, rfl, ha, hs⟩ := ls_get w hx hl
  cases hy
  refine ⟨a, i, vs, rfl, rfl, ha, h1, h2, by rw [hs.length]; exact h3, fun p hp => ?_⟩
  have hs2 := (dtA_rep hs i.toNat).sm (Same.new (o := .lst (List.replicate i.toNat vs).flatten) hp)
  have hs3 : DtA (fun a => S a ∨ a = p) (upd H p (.lst (List.replicate i.toNat vs).flatten)) (List.replicate i.toNat vs).flatten (List.replicate i.toNat xs).flatten := by
    have := DtA.set (S := S) (S' := fun a => S a ∨ a = p) (fun b n k z => z.elim n fun q => k (by rw [q]; exact hp)) _ (dtA_rep hs i.toNat)
    exact this.sm (Same.new hp)
  exact k (.ptr p) _ _ (.ref p) _ (h p (w.fresh hp)) (.mutable w hp) (w.mutable hp ⟨_, upd_same, hs3⟩) (.ptr p)⟩
end V
namespace V
open PySem PySem.Spec PyProof.Rows L2 U StX
section
variable {X : Cx} {pins : List (Addr × Obj)} {σ : L2.St} {H : Hp} {s : Shared}
def rInDT : R2 := fun y x H Q => ∃ a kvs, x = V.ref a ∧ H a = some (.dT kvs) ∧ ((∃ z, y = V.str z ∧ Q (.bl false) H) ∨ ∃ b k, y = V.ref b ∧ H b = some (.tup (k.map kV)) ∧ Q (.bl (valV kvs k).isSome) H)
end
def valT (kvs : List (List Key × D)) (k : List Key) : Option D := (kvs.find? fun kv => decide (kv.1 = k)).map (·.2)
theorem valT_pos {p : List Key × D} {r : List (List Key × D)} {k : List Key} (e : p.1 = k) : valT (p :: r) k = some p.2 := by simp [valT, List.find?_cons, e]
theorem valT_neg {p : List Key × D} {r : List (List Key × D)} {k : List Key} (e : ¬ p.1 = k) : valT (p :: r) k = valT r k := by simp [valT, List.find?_cons, e]
section
variable {S : Addr → Prop} {M : Mem} {H : Hp}
theorem dtA_kk : ∀ {ks : List Key} {vs : List V}, DtA S H vs (ks.map kD) → vs = ks.map kV
  | [], _, .nil => rfl
  | _ :: _, _, .cons h t => by rw [dt_kD h, dtA_kk t]; rfl
theorem valT_held : ∀ {ws : List (List Key × V)} {kvs : List (List Key × D)}, ws.map (·.1) = kvs.map (·.1) → DtA S H (ws.map (·.2)) (kvs.map (·.2)) → ∀ k, (valT kvs k = none ∧ valV ws k = none) ∨ ∃ d v, valT kvs k = some d ∧ valV ws k = some v ∧ Dt S H v d
  | [], [], _, _, k => .inl ⟨rfl, rfl⟩
  | [], _ :: _, h, _, _ => by simp at h
  | _ :: _, [], h, _, _ => by simp at h
  | (a, v) :: ws, (b, d) :: kvs, hk, hs, k => by
    simp only [List.map_cons, List.cons.injEq] at hk
    obtain ⟨rfl, hk⟩ := hk
    cases hs with
    | cons h1 h2 =>
      by_cases c : a = k
      · exact .inr ⟨d, v, valT_pos c, valV_pos c, h1⟩
      · rw [valT_neg (p := (a, d)) c, valV_neg (p := (a, v)) c]
        exact valT_held hk h2 k
theorem lenT_held {ws : List (List Key × V)} {kvs : List (List Key × D)} (hk : ws.map (·.1) = kvs.map (·.1)) : ws.length = kvs.length := by
  have := congrArg List.length hk
  rwa [List.length_map, List.length_map] at this
end
def dDNewT : DE := fun δ M P => ∀ a, M a = none → P (.ptr a) (mset M a (.dct []))
instance pu_dnewT : PuE tDNewT dDNewT := ⟨fun S M σ δ H P Q w e h k p hp =>
  k (.ptr p) _ _ (.ref p) _ (h p (w.fresh hp)) (.mutable w hp) (w.mutable hp ⟨[], upd_same, rfl, .nil⟩) (.ptr p)⟩
def rInDT1 : DR := fun y x M P => ∃ p kvs, x = .ptr p ∧ M p = some (.dct kvs) ∧ ((∃ z, y = .str z ∧ P (.bl false) M) ∨ ∃ ks : List Key, y = .tup (ks.map kD) ∧ P (.bl (valT kvs ks).isSome) M)
instance op_inDT1 : OpD rInDT rInDT1 := ⟨fun S M H y x dy dx P Q w hy hx h k => by
  obtain ⟨p, kvs, rfl, hm, h⟩ := h
  cases hx
  obtain ⟨_, ws, ha, hk, hs⟩ := w.mem p _ hm
  rcases h with ⟨z, rfl, q⟩ | ⟨ks, rfl, q⟩
  · cases hy
    exact ⟨p, ws, rfl, ha, .inl ⟨z, rfl, k _ S M _ H q .refl w (.bl _)⟩⟩
  · cases hy with
    | tup n hb hv =>
      rw [dtA_kk hv] at hb
      refine ⟨p, ws, rfl, ha, .inr ⟨_, ks, rfl, hb, ?_⟩⟩
      rcases valT_held hk hs ks with ⟨e1, e2⟩ | ⟨d, v, e1, e2, e3⟩
      · rw [e2]
        rw [e1] at q
        exact k _ S M _ H q .refl w (.bl _)
      · rw [e2]
        rw [e1] at q
        exact k _ S M _ H q .refl w (.bl _)⟩
/-- d[k], the key a tuple -/
def tDGetT (td ty : TE) : TE := tDGet td ty
def dDIxT (a b : DE) : DE := fun δ M P => a δ M fun x M1 => b δ M1 fun y M2 => ∃ p kvs, ∃ ks : List Key, ∃ d, x = .ptr p ∧ M2 p = some (.dct kvs) ∧ y = .tup (ks.map kD) ∧ valT kvs ks = some d ∧ P d M2
instance pu_dixT {ta tb : TE} {da db : DE} [A : PuE ta da] [B : PuE tb db] : PuE (tDGetT ta tb) (dDIxT da db) := ⟨fun S M σ δ H P Q w e h k =>
  A.run S M σ δ H _ _ w e h fun x S1 M1 v1 H1 p1 t1 w1 h1 => B.run S1 M1 σ δ H1 _ _ w1 (e.step w t1) p1 fun y S2 M2 v2 H2 p2 t2 w2 h2 => by
    obtain ⟨p, kvs, ks, d, rfl, hm, rfl, hv, p2⟩ := p2
    cases h1
    obtain ⟨_, ws, ha, hk, hs⟩ := w2.mem p _ hm
    cases h2 with
    | tup n hb hvs =>
      rw [dtA_kk hvs] at hb
      rcases valT_held hk hs ks with ⟨e1, e2⟩ | ⟨d', v, e1, e2, e3⟩
      · rw [hv] at e1; cases e1
      · rw [hv] at e1; cases e1
        exact ⟨p, v, rfl, e2 ▸ DGet.t ha hb, k _ _ _ _ _ p2 (t1.trans t2) w2 e3⟩⟩
/-- d[k] = v, the key a tuple that is new -/
def sDPutT (td ty tv : TE) : TS := sDPut td ty tv
def sDPutTD (a b c : DE) : DS := fun nx rt bk ct δ M => c δ M fun z M1 => a δ M1 fun x M2 => b δ M2 fun y M3 => ∃ p kvs, ∃ ks : List Key, x = .ptr p ∧ M3 p = some (.dct kvs) ∧ y = .tup (ks.map kD) ∧ valT kvs ks = none ∧ kvs.length < sizeLine ∧ nx δ (mset M3 p (.dct (kvs ++ [(ks, z)])))
instance pu_dputT {ta tb tc : TE} {da db dc : DE} [A : PuE ta da] [B : PuE tb db] [C : PuE tc dc] : PuS (sDPutT ta tb tc) (sDPutTD da db dc) := ⟨fun S M σ δ H nx rt bk ct E w e h l =>
  C.run S M σ δ H _ _ w e h fun z S1 M1 v1 H1 p1 t1 w1 h1 => A.run S1 M1 σ δ H1 _ _ w1 (e.step w t1) p1 fun x S2 M2 v2 H2 p2 t2 w2 h2 =>
    B.run S2 M2 σ δ H2 _ _ w2 (e.step w (t1.trans t2)) p2 fun y S3 M3 v3 H3 p3 t3 w3 h3 => by
      obtain ⟨p, kvs, ks, rfl, hm, rfl, hn, hl, q⟩ := p3
      cases h2
      obtain ⟨sp, ws, ha, hk, hs⟩ := w3.mem p _ hm
      have t123 := (t1.trans t2).trans t3
      have hv := dt_step w1 (t2.trans t3) _ h1
      cases h3 with
      | tup n hb hvs =>
        rw [dtA_kk hvs] at hb
        rcases valT_held hk hs ks with ⟨e1, e2⟩ | ⟨d', v, e1, e2, e3⟩
        · have ep : putK ws ks v1 = ws ++ [(ks, v1)] := by
            unfold putK
            rw [valV_any, e2]
            rfl
          have ex : Ext S3 H3 (upd H3 p (.dT (putK ws ks v1))) := Ext.mut (Ext.refl _) sp
          have t4 : Step S M H S3 (mset M3 p (.dct (kvs ++ [(ks, z)]))) (upd H3 p (.dT (putK ws ks v1))) := t123.trans (.change hm)
          refine ⟨p, _, rfl, DPut.t ha hb (by rw [lenT_held hk]; exact hl), l.nx _ _ _ _ _ q t4 (w3.change hm ⟨_, upd_same, ?_, ?_⟩) (e.step w t4)⟩
          · rw [ep, List.map_append, List.map_append, hk]
            rfl
          · rw [ep, List.map_append, List.map_append]
            exact ((hs.go (ep ▸ ex)).snoc (hv.go (ep ▸ ex)))
        · rw [hn] at e1; cases e1⟩
end V
namespace V
open PySem PySem.Spec PyProof.Rows L2 U StX
inductive MK where
  | sg (c : Nat)
  | pl (s i : Nat)
deriving DecidableEq
def pk (p : Nat × Nat) : MK := .pl p.1 p.2
end V
namespace V
open PySem PySem.Spec PyProof.Rows L2 U StX
section
variable {X : Cx}
def rMinS (K : PySem.W.Frag) : List V → Hp → VK → Prop := fun vs H Q => ∃ (a : Addr) (zs : List Str), vs = [V.ref a] ∧ SqL K H a (zs.map V.str) ∧ 0 < zs.length ∧ ∀ m, m ∈ zs → (∀ y, y ∈ zs → ¬ cd y < cd m) → Q (.str m) H
end
def rMinS1 : DC := fun ds M P => ∃ (x : D) (zs : List Str), ds = [x] ∧ isLs M x (zs.map D.str) ∧ 0 < zs.length ∧ ∀ m, m ∈ zs → (∀ y, y ∈ zs → ¬ cd y < cd m) → P (.str m) M
theorem dtA_strs {S : Addr → Prop} {H : Hp} : ∀ {zs : List Str} {vs : List V}, DtA S H vs (zs.map D.str) → vs = zs.map V.str
  | [], _, .nil => rfl
  | _ :: _, _, .cons h t => by cases h; rw [dtA_strs t]; rfl
instance cb_minS {K : PySem.W.Frag} : CbD (rMinS K) rMinS1 := ⟨fun S M H vs ds P Q w hv h k => by
  obtain ⟨x, zs, rfl, hl, h0, q⟩ := h
  match vs, hv with
  | [v], .cons h1 .nil =>
    obtain ⟨a, us, rfl, ha, hs⟩ := ls_get w h1 hl
    rw [dtA_strs hs] at ha
    exact ⟨a, zs, rfl, SqL.of ha, h0, fun m h2 h3 => k _ S M _ H (q m h2 h3) .refl w (.str m)⟩⟩
end V
namespace V
open PySem PySem.Spec PyProof.Rows L2 U StX
theorem op_repTK {X : Cx} {K : PySem.W.Frag} (h : X.K = K) : OpR X (binaryOp .Mult) (rRepT K) := by subst h; exact op_repT
def rRepT1 : DR := fun x y M P => ∃ xs k, x = .tup xs ∧ y = .int k ∧ xs ≠ [] ∧ 2 ≤ k ∧ k ≤ 1000 ∧ xs.length ≤ 1000 ∧ P (.tup (List.replicate k.toNat xs).flatten) M
instance op_repT1 {K : PySem.W.Frag} : OpD (rRepT K) rRepT1 := ⟨fun S M H x y dx dy P Q w hx hy h k => by
  obtain ⟨xs, i, rfl, rfl, h0, h1, h2, h3, h⟩ := h
  cases hy
  cases hx with
  | tup n ha hs =>
    rename_i a vs
    have hl := hs.length
    refine ⟨_, i, vs, rfl, rfl, SqT.of ha, fun z => ?_, h1, h2, by omega, fun p hp => ?_⟩
    · rw [z] at hl
      exact h0 (List.length_eq_zero_iff.mp hl.symm)
    · exact k (.tup _) _ _ (.ref p) _ h (.new hp) (w.new hp) (.tup (w.ns hp) upd_same ((dtA_rep hs i.toNat).sm (Same.new hp)))⟩
end V
namespace V
open PySem PySem.Spec PyProof.Rows L2 U StX
end V
namespace V
open PySem PySem.Spec PyProof.Rows L2 U StX
/-- J walks these data whatever the heap is -/
structure WalksA (J : It) (xs : List D) : Prop where
  stop : ∀ H', J.stop xs.length H'
  go : ∀ i H', i < xs.length → J.go i H'
  yld : ∀ i H' x H2, i < xs.length → J.yld i H' x H2 → Same H' H2 ∧ ∃ d, xs[i]? = some d ∧ ∀ S', Dt S' H2 x d
theorem walksA_of {J : It} {xs : List D} (h : ∀ S M H, Wo S M H → Walks J (fun _ => True) S M H xs) (hd : ∀ d ∈ xs, ∃ i, d = .int i) : WalksA J xs where
  stop H' := (h N0 (fun _ => none) H' (wo_none H')).stop _ _ _ .refl (wo_none H') trivial
  go i H' hi := (h N0 (fun _ => none) H' (wo_none H')).go i _ _ _ hi .refl (wo_none H') trivial
  yld i H' x H2 hi y := by
    obtain ⟨s, d, e, k⟩ := (h N0 (fun _ => none) H' (wo_none H')).yld i _ _ _ x H2 hi .refl (wo_none H') trivial y
    refine ⟨s, d, e, fun S' => ?_⟩
    obtain ⟨j, rfl⟩ := hd d (List.mem_of_getElem? e)
    cases k
    exact .int j
abbrev DIA := Dl → Mem → (List D → Mem → Prop) → Prop
class PuIA (t : TI) (dt : outParam DIA) : Prop where
  run : ∀ S M σ δ H (P : List D → Mem → Prop) (R : It → Hp → Prop), Wo S M H → En S H σ δ → dt δ M P → (∀ xs S' M' H' J, P xs M' → Step S M H S' M' H' → Wo S' M' H' → WalksA J xs → R J H') → t σ H R
def dA1 (a : DA) : DIA := fun δ M P => a δ M fun xs M1 => ∃ j : Int, xs = [.int j] ∧ -(2 ^ 62) ≤ j ∧ j < 2 ^ 62 ∧ P (rgD 0 j) M1
instance pu_ia1 {tt : TA} {dd : DA} [A : PuA tt dd] : PuIA (iRng1 tt) (dA1 dd) := ⟨fun S M σ δ H P R w e h k =>
  A.run S M σ δ H _ _ w e h fun d S1 M1 v H1 p1 t1 w1 h1 => by
    obtain ⟨j, rfl, b1, b2, p1⟩ := p1
    match v, h1 with
    | [_], .cons (.int _) .nil => exact ⟨j, rfl, b1, b2, k _ S1 M1 H1 _ p1 t1 w1 (walksA_of (fun S M H w => walks_rng (by rw [Int.sub_zero])) fun d hd => by
      obtain ⟨i, hi⟩ := List.getElem?_of_mem hd
      have hl := (List.getElem?_eq_some_iff.mp hi).1
      rw [rgD_get hl] at hi
      exact ⟨_, (Option.some.inj hi).symm⟩)⟩⟩
def dIn (g1 : DG) (t1 : DT) (a : DE) (vs1 : List Nat) (δ : Dl) (Kn : List D → Mem → Prop) : List D → List D → Mem → Prop
  | [], acc, M => Kn acc M
  | y :: ys, acc, M => g1 y (wipeD δ vs1) M fun δ3 M1 => t1 δ3 M1 fun b M2 => if b = true then a δ3 M2 fun z M3 => acc.length < sizeLine ∧ dIn g1 t1 a vs1 δ Kn ys (acc ++ [z]) M3 else dIn g1 t1 a vs1 δ Kn ys acc M2
def dGather2 (G : Mem → Prop) (g : DG) (t : DT) (i1 : DIA) (g1 : DG) (t1 : DT) (a : DE) (vs vs1 : List Nat) (δ : Dl) (P : QD) : List D → List D → Mem → Prop
  | [], acc, M => P (.lst acc) M
  | x :: xs, acc, M => g x (wipeD δ vs) M fun δ1 M1 => t δ1 M1 fun b M2 => if b = true then i1 δ1 M2 fun ys M3 => dIn g1 t1 a vs1 δ1 (fun acc M4 => G M4 ∧ dGather2 G g t i1 g1 t1 a vs vs1 δ P xs acc M4) ys acc M3 else G M2 ∧ dGather2 G g t i1 g1 t1 a vs vs1 δ P xs acc M2
def dLc2 (i : DI) (g : DG) (t : DT) (i1 : DIA) (g1 : DG) (t1 : DT) (a : DE) (vs vs1 : List Nat) : DE := fun δ M P => i δ M fun G xs M1 => G M1 ∧ dGather2 G g t i1 g1 t1 a vs vs1 δ P xs [] M1
theorem en_push {S : Addr → Prop} {H : Hp} {σ : L2.St} {δ : Dl} {D0 : Addr} {o : HO} (e : En S H σ δ) (sd : S D0) : En S (upd H D0 o) σ δ := ⟨e.len, fun i d h => by
  obtain ⟨v, h1, h2⟩ := e.at_ i d h
  exact ⟨v, h1, h2.go (Ext.mut (Ext.refl _) sd)⟩⟩
theorem wo_push {S : Addr → Prop} {M : Mem} {H : Hp} {D0 : Addr} {o : HO} (w : Wo S M H) (sd : S D0) (mD : M D0 = none) : Wo S M (upd H D0 o) := by
  refine ⟨fun a s => ?_, fun a mo q => ?_⟩
  · by_cases c : a = D0
    · rw [c, upd_same]; exact fun z => nomatch z
    · rw [upd_ne c]; exact w.tr a s
  · obtain ⟨s, q2⟩ := w.mem a mo q
    have c : a ≠ D0 := by rintro rfl; rw [mD] at q; cases q
    exact ⟨s, held_ext (Ext.mut (Ext.refl _) sd) (fun u hu => (upd_ne c).trans hu) q2⟩
theorem step_push {S1 S' : Addr → Prop} {M1 M' : Mem} {H1 H' : Hp} {D0 : Addr} {o : HO} (t : Step S1 M1 H1 S' M' H') (hD : H1 D0 = none) : Step S1 M1 H1 S' M' (upd H' D0 o) := ⟨fun b u n hb => by
  obtain ⟨q1, q2, q3⟩ := t.keep b u n hb
  exact ⟨(upd_ne (ne_of_none hb hD)).trans q1, q2, q3⟩⟩
set_option maxHeartbeats 16000000 in
instance pu_lc2 {ti ti1 : TI} {g g1 : TG} {t t1 : TT} {ta : TE} {di : DI} {di1 : DIA} {dg dg1 : DG} {dt dt1 : DT} {da : DE} {sl sl1 vs vs1 : List Nat} [I : PuI ti di] [A : PuG g dg sl] [sub : SubL sl vs] [T : PuT t dt] [I1 : PuIA ti1 di1] [A1 : PuG g1 dg1 sl1] [sub1 : SubL sl1 vs1] [T1 : PuT t1 dt1] [B : PuE ta da] :
    PuE (tLc2 ti g t ti1 g1 t1 ta vs vs1) (dLc2 di dg dt di1 dg1 dt1 da vs vs1) := ⟨fun S M σ δ H P Q w e h k =>
  I.run S M σ δ H _ _ w e h fun G xs S1 M1 H1 J p1 t1 w1 wk => by
    intro D0 hD
    obtain ⟨g1', p1⟩ := p1
    let Iv : Nat → Hp → Prop := fun i H' => ∃ S' M' acc ws, G M' ∧ dGather2 G dg dt di1 dg1 dt1 da vs vs1 δ P (xs.drop i) acc M' ∧ Step S1 M1 H1 S' M' H' ∧ Wo S' M' H' ∧ En S' H' σ δ ∧ S' D0 ∧ M' D0 = none ∧ H' D0 = some (.lst ws) ∧ DtA S' H' ws acc
    refine ⟨fun i m H' => i ≤ xs.length ∧ m = xs.length - i ∧ Iv i H', ⟨_, Nat.zero_le _, rfl, (fun a => S1 a ∨ a = D0), M1, [], [], g1', p1, .apart hD, w1.apart hD, (e.step w t1).step w1 (.apart hD), .inr rfl, w1.fresh hD, upd_same, .nil⟩, ?_⟩
    rintro i m H2 ⟨hi, rfl, S2, M2, acc, ws, g2, p2, t2, w2, e2, sD, mD, hL, hA⟩
    by_cases hlt : i < xs.length
    · refine .inr ⟨wk.go i S2 M2 H2 hlt t2 w2 g2, Iv (i + 1), fun H' q => ⟨_, by omega, hlt, rfl, q⟩, ?_⟩
      intro x H3 y
      obtain ⟨same, d, hd, hx⟩ := wk.yld i S2 M2 H2 x H3 hlt t2 w2 g2 y
      rw [drop_cons hd] at p2
      have t3 : Step S2 M2 H2 S2 M2 H3 := .same same
      have w3 := w2.same same
      have e3 := e2.step w2 t3
      refine A.run S2 M2 _ _ H3 x d _ _ w3 (e3.wipe vs) hx p2 fun δ4 S4 M4 σ4 H4 p4 t4 w4 e4 o4 => ⟨by rw [o4 vs sub.h, wipe_wipe], ?_⟩
      refine T.run S4 M4 σ4 δ4 H4 _ _ w4 e4 p4 fun b S5 M5 H5 p5 t5 w5 => ?_
      have t25 := (t3.trans t4).trans t5
      obtain ⟨hL5, mD5, sD5⟩ := t25.keep _ _ mD hL
      have hA5 := dtA_step w2 t25 _ hA
      cases b with
      | false =>
        rw [if_neg Bool.false_ne_true] at p5 ⊢
        exact ⟨S5, M5, acc, ws, p5.1, p5.2, t2.trans t25, w5, e2.step w2 t25, sD5.mpr sD, mD5, hL5, hA5⟩
      | true =>
        rw [if_pos rfl] at p5 ⊢
        have e45 := e4.step w4 t5
        have e25 := e2.step w2 t25
        refine I1.run S5 M5 σ4 δ4 H5 _ _ w5 e45 p5 fun ys S6 M6 H6 J1 p6 t6 w6 wk1 => ?_
        obtain ⟨hL6, mD6, sD6⟩ := t6.keep _ _ mD5 hL5
        let Iv1 : Nat → Hp → Prop := fun j H' => ∃ S' M' acc ws, dIn dg1 dt1 da vs1 δ4 (fun acc M4 => G M4 ∧ dGather2 G dg dt di1 dg1 dt1 da vs vs1 δ P (xs.drop (i + 1)) acc M4) (ys.drop j) acc M' ∧ Step S1 M1 H1 S' M' H' ∧ Wo S' M' H' ∧ En S' H' σ δ ∧ En S' H' σ4 δ4 ∧ S' D0 ∧ M' D0 = none ∧ H' D0 = some (.lst ws) ∧ DtA S' H' ws acc
        refine ⟨fun j m H' => j ≤ ys.length ∧ m = ys.length - j ∧ Iv1 j H', ⟨_, Nat.zero_le _, rfl, S6, M6, acc, ws, p6, t2.trans (t25.trans t6), w6, e25.step w5 t6, e45.step w5 t6, sD6.mpr (sD5.mpr sD), mD6, hL6, dtA_step w5 t6 _ hA5⟩, ?_⟩
        rintro j m H7 ⟨hj, rfl, S7, M7, acc7, ws7, p7, t7, w7, e7, f7, sD7, mD7, hL7, hA7⟩
        by_cases hjt : j < ys.length
        · refine .inr ⟨wk1.go j H7 hjt, Iv1 (j + 1), fun H' q => ⟨_, by omega, hjt, rfl, q⟩, ?_⟩
          intro x1 H8 y1
          obtain ⟨same1, d1, hd1, hx1⟩ := wk1.yld j H7 x1 H8 hjt y1
          rw [drop_cons hd1] at p7
          have t8 : Step S7 M7 H7 S7 M7 H8 := .same same1
          have w8 := w7.same same1
          have e8 := e7.step w7 t8
          have f8 := f7.step w7 t8
          refine A1.run S7 M7 _ _ H8 x1 d1 _ _ w8 (f8.wipe vs1) (hx1 S7) p7 fun δ9 S9 M9 σ9 H9 p9 t9 w9 e9 o9 => ⟨by rw [o9 vs1 sub1.h, wipe_wipe], ?_⟩
          refine T1.run S9 M9 σ9 δ9 H9 _ _ w9 e9 p9 fun b Sa Ma Ha pa ta' wa => ?_
          have t7a := (t8.trans t9).trans ta'
          obtain ⟨hLa, mDa, sDa⟩ := t7a.keep _ _ mD7 hL7
          have hAa := dtA_step w7 t7a _ hA7
          cases b with
          | false =>
            rw [if_neg Bool.false_ne_true] at pa ⊢
            exact ⟨Sa, Ma, acc7, ws7, pa, t7.trans t7a, wa, e7.step w7 t7a, f7.step w7 t7a, sDa.mpr sD7, mDa, hLa, hAa⟩
          | true =>
            rw [if_pos rfl] at pa ⊢
            refine B.run Sa Ma σ9 δ9 Ha _ _ wa (e9.step w9 ta') pa fun yv Sb Mb v Hb pb tb wb hb => ?_
            have t7b := t7a.trans tb
            obtain ⟨hLb, mDb, sDb⟩ := tb.keep _ _ mDa hLa
            have hAb := dtA_step wa tb _ hAa
            have sd : Sb D0 := sDb.mpr (sDa.mpr sD7)
            have ex : Ext Sb Hb (upd Hb D0 (.lst (ws7 ++ [v]))) := Ext.mut (Ext.refl _) sd
            refine ⟨ws7, hLb, by rw [hA7.length]; exact pb.1, Sb, Mb, acc7 ++ [yv], ws7 ++ [v], pb.2, step_push (t7.trans t7b) hD, wo_push wb sd mDb, en_push (e7.step w7 t7b) sd, en_push (f7.step w7 t7b) sd, sd, mDb, upd_same, (hAb.snoc hb).go ex⟩
        · have ej : j = ys.length := by omega
          subst ej
          rw [List.drop_length] at p7
          exact .inl ⟨wk1.stop H7, S7, M7, acc7, ws7, p7.1, p7.2, t7, w7, e7, sD7, mD7, hL7, hA7⟩
    · have ei : i = xs.length := by omega
      subst ei
      rw [List.drop_length] at p2
      refine .inl ⟨wk.stop S2 M2 H2 t2 w2 g2, k _ (fun a => S2 a ∧ a ≠ D0) M2 _ H2 p2 (t1.trans ⟨fun b o n hb => ?_⟩) ⟨fun a s => w2.tr a s.1, fun a mo q => ?_⟩ (.lst (fun z => z.2 rfl) hL (dtA_freeze hA))⟩
      · obtain ⟨q1, q2, q3⟩ := t2.keep b o n hb
        have c := ne_of_none hb hD
        exact ⟨q1, q2, ⟨fun z => q3.mp z.1, fun z => ⟨q3.mpr z, c⟩⟩⟩
      · obtain ⟨s, q2⟩ := w2.mem a mo q
        have c : a ≠ D0 := by rintro rfl; rw [mD] at q; cases q
        exact ⟨⟨s, c⟩, held_set (fun b n _ z => n z.1) q2⟩⟩
end V
namespace V
open PySem PySem.Spec PyProof.Rows L2 U StX
def rSortT (K : PySem.W.Frag) : List V → Hp → VK → Prop := fun vs H Q => ∃ (a : Addr) (ns : List Int), vs = [V.ref a] ∧ SqT K H a (ns.map V.int) ∧ ns.length < 64 ∧ ∀ (ns' : List Int) (p : Addr), ns'.Perm ns → ns'.Pairwise (· ≤ ·) → H p = none → Q (.ref p) (upd H p (.lst (ns'.map V.int)))
def rSortT1 : DC := fun ds M P => ∃ (ns : List Int), ds = [.tup (ns.map D.int)] ∧ ns.length < 64 ∧ ∀ ns' : List Int, ns'.Perm ns → ns'.Pairwise (· ≤ ·) → P (.lst (ns'.map D.int)) M
theorem dtA_intsV {S : Addr → Prop} {H : Hp} : ∀ {ns : List Int} {vs : List V}, DtA S H vs (ns.map D.int) → vs = ns.map V.int
  | [], _, .nil => rfl
  | _ :: _, _, .cons h t => by cases h; rw [dtA_intsV t]; rfl
theorem dtA_intsD {S : Addr → Prop} {H : Hp} : ∀ ns : List Int, DtA S H (ns.map V.int) (ns.map D.int)
  | [] => .nil
  | i :: ns => .cons (.int i) (dtA_intsD ns)
instance cb_sortT {K : PySem.W.Frag} : CbD (rSortT K) rSortT1 := ⟨fun S M H vs ds P Q w hv h k => by
  obtain ⟨ns, rfl, h64, q⟩ := h
  match vs, hv with
  | [_], .cons (.tup n ha hs) .nil =>
    rw [dtA_intsV hs] at ha
    exact ⟨_, ns, rfl, SqT.of ha, h64, fun ns' p h1 h2 hp => k _ S M _ _ (q ns' h1 h2) (.new hp) (w.new hp) (.lst (w.ns hp) upd_same (dtA_intsD ns'))⟩⟩
end V
namespace V
open PySem PySem.Spec PyProof.Rows L2 U StX
section
variable {G : Mem → Prop} {g g1 : DG} {t t1 : DT} {i1 : DIA} {a : DE} {vs vs1 : List Nat} {δ : Dl} {M : Mem} {P : QD} {xs ys : List D}
theorem gather2_inv (I : Nat → List D → Mem → Prop) (h0 : I 0 [] M)
    (step : ∀ i x acc M (Kn : List D → Mem → Prop), xs[i]? = some x → I i acc M → (∀ acc' M', G M' → I (i + 1) acc' M' → G M' ∧ Kn acc' M') →
      g x (wipeD δ vs) M fun δ1 M1 => t δ1 M1 fun b M2 => if b = true then i1 δ1 M2 fun ys M3 => dIn g1 t1 a vs1 δ1 (fun acc M4 => G M4 ∧ Kn acc M4) ys acc M3 else G M2 ∧ Kn acc M2)
    (fin : ∀ acc M, I xs.length acc M → P (.lst acc) M) : dGather2 G g t i1 g1 t1 a vs vs1 δ P xs [] M := by
  have key : ∀ k i acc M, i + k = xs.length → I i acc M → dGather2 G g t i1 g1 t1 a vs vs1 δ P (xs.drop i) acc M := by
    intro k
    induction k with
    | zero =>
      intro i acc M e h
      have : i = xs.length := by omega
      subst this
      rw [List.drop_length]
      exact fin acc M h
    | succ k ih =>
      intro i acc M e h
      have hx := at_some (xs := xs) (i := i) (by omega)
      rw [drop_cons hx]
      exact step i _ acc M (fun acc M' => dGather2 G g t i1 g1 t1 a vs vs1 δ P (xs.drop (i + 1)) acc M') hx h fun acc' M' g' h' => ⟨g', ih (i + 1) _ M' (by omega) h'⟩
  exact key xs.length 0 [] M (by omega) h0
theorem in_map {f : D → D} {p : D → Bool} {Kn : List D → Mem → Prop} {acc : List D} (hs : acc.length + ys.length < sizeLine)
    (step : ∀ y, y ∈ ys → ∀ (Ky : QD) (Kq : Mem → Prop), (p y = true → Ky (f y) M) → (p y = false → Kq M) → g1 y (wipeD δ vs1) M fun δ3 M1 => t1 δ3 M1 fun b M2 => if b = true then a δ3 M2 fun z M3 => Ky z M3 else Kq M2)
    (fin : Kn (acc ++ (ys.filter p).map f) M) : dIn g1 t1 a vs1 δ Kn ys acc M := by
  induction ys generalizing acc with
  | nil => rw [List.filter_nil, List.map_nil, List.append_nil] at fin; exact fin
  | cons y ys ih =>
    rw [List.length_cons] at hs
    refine step y (List.mem_cons_self ..) (fun z M3 => acc.length < sizeLine ∧ dIn g1 t1 a vs1 δ Kn ys (acc ++ [z]) M3) (fun M2 => dIn g1 t1 a vs1 δ Kn ys acc M2) (fun hp => ⟨by omega, ?_⟩) (fun hp => ?_)
    · refine ih (by rw [List.length_append, List.length_singleton]; omega) (fun z hz => step z (List.mem_cons_of_mem _ hz)) ?_
      rw [List.filter_cons_of_pos hp, List.map_cons] at fin
      rw [List.append_assoc]
      exact fin
    · refine ih (by omega) (fun z hz => step z (List.mem_cons_of_mem _ hz)) ?_
      rw [List.filter_cons_of_neg (by rw [hp]; exact Bool.false_ne_true)] at fin
      exact fin
theorem x_lc2 {i : DI} (h : i δ M fun G xs M1 => G M1 ∧ dGather2 G g t i1 g1 t1 a vs vs1 δ P xs [] M1) : dLc2 i g t i1 g1 t1 a vs vs1 δ M P := h
theorem x_ia1 {ta : DA} {R : List D → Mem → Prop} (h : ta δ M fun ys M1 => ∃ j : Int, ys = [.int j] ∧ -(2 ^ 62) ≤ j ∧ j < 2 ^ 62 ∧ R (rgD 0 j) M1) : dA1 ta δ M R := h
end
end V
namespace V
open PySem PySem.Spec PyProof.Rows L2 U StX
section
variable {prog : Program} {w : World} {A : Around} {E : Value → Shared → Prop} {s : Shared} {T : Type} [DecidableEq T] {knd : PySem.KeyKind prog w T}
/-- a set whose table can also be walked -/
def SetX (knd : PySem.KeyKind prog w T) (w' : World) (h : Heap) (a : Addr) (S : T → Bool) (n : Nat) : Prop :=
  ∃ o es ep t, h.get? a = some o ∧ (o.ExactSet ∧ o.data = .set es ep t ∧ ElemsOf knd es.toList ∧ (∀ k, S k = true ↔ ∃ e ∈ es.toList, knd.is k e.2 = true) ∧ es.size < scanBound ∧ t.fits es.size = true ∧ es.size = n) ∧
    Ris t.place.toList ∧ (w'.params.followText "set-order" = true ∨ t.led = true)
theorem setX_congr {w' : World} {h : Heap} {a : Addr} {S S' : T → Bool} {n n' : Nat} (x : SetX knd w' h a S n) (e : ∀ z, S z = S' z) (hn : n = n') : SetX knd w' h a S' n' := by
  have : S = S' := funext e
  rw [← this, ← hn]
  exact x
theorem setX_fresh {h : Heap} {a : Addr} (g : h.get? a = some { cls := .type "set", dict := none, data := .set #[] 0 (.fresh 0 0 (!w.params.followText "set-order")) }) : SetX knd w h a (fun _ => false) 0 :=
  ⟨_, #[], 0, _, g, ⟨⟨rfl, rfl, rfl⟩, rfl, fun e he => by simp at he, fun k => by simp, by decide, by rfl, rfl⟩, List.Pairwise.nil, by
    show _ ∨ (!w.params.followText "set-order") = true
    cases w.params.followText "set-order"
    · exact .inr rfl
    · exact .inl rfl⟩
theorem storeX {h : Heap} {a : Addr} {o : Obj} {es es' : Array (Int × Value)} {ep : Nat} {t t' : SetTable} {S : T → Bool} (ho : h.get? a = some o) (hex : o.ExactSet) (hd : o.data = .set es ep t) (hel : ElemsOf knd es'.toList) (hm : ∀ k, S k = true ↔ ∃ e ∈ es'.toList, knd.is k e.2 = true)
    (hb : es'.size < scanBound) (hf : t'.fits es'.size = true) (r : Ris t'.place.toList) (l : w.params.followText "set-order" = true ∨ t'.led = true) :
    (h.update a (Obj.putSet es' t')).get? a = some { o with data := .set es' (ep + 1) t' } ∧ SetX knd w (h.update a (Obj.putSet es' t')) a S es'.size :=
  have g := store_at (es' := es') (t' := t') ho hd
  ⟨g, _, es', _, t', g, ⟨hex, rfl, hel, hm, hb, hf, rfl⟩, r, l⟩
/-- the end of an add: store, and lay anew where it is too full -/
theorem tailX {g : Bool → Sem Unit} (hg : ∀ (b : Bool) (s₁ : Shared) (Q' : Unit → Shared → Prop), Q' () s₁ → wpAny (model prog w) A (g b) Q' E s₁)
    {a : Addr} {o : Obj} {es : Array (Int × Value)} {ep : Nat} {t : SetTable} (ho : s.heap.get? a = some o) (hex : o.ExactSet) (hd : o.data = .set es ep t)
    {e1 : Array (Int × Value)} {t2 : SetTable} {S' : T → Bool} (hel : ElemsOf knd e1.toList) (hm : ∀ k, S' k = true ↔ ∃ e ∈ e1.toList, knd.is k e.2 = true)
    (hb : e1.size < scanBound) (hf : t2.fits e1.size = true) (r : Ris t2.place.toList) (l : w.params.followText "set-order" = true ∨ t2.led = true) {wasDummy : Bool} {R : Option Bool → Shared → Prop}
    (h : ∀ h', Heap.SameBut a s.heap h' → SetX knd w h' a S' e1.size → R (some true) { s with heap := h' }) :
    wpAny (model prog w) A (do
        storeSet a e1 t2
        if (!wasDummy && t2.tooFull) = true then do
            g (relayAll t2 e1 (SetTable.grown e1.size)).2.2
            storeSet a (relayAll t2 e1 (SetTable.grown e1.size)).1 (relayAll t2 e1 (SetTable.grown e1.size)).2.1
            pure (some true)
          else pure (some true)) R E s := by
  refine wpAny_bind (wpAny_storeSet_of ho hd ?_ (fits_of_scanBound hb))
  obtain ⟨g1, x1⟩ := storeX (knd := knd) ho hex hd hel hm hb hf r l
  have b1 := Heap.SameBut.update s.heap a (Obj.putSet e1 t2)
  by_cases c : (!wasDummy && t2.tooFull) = true
  · rw [if_pos c]
    have p := relayAll_perm t2 e1 (SetTable.grown e1.size)
    have f2 := relayAll_fits t2 e1 (SetTable.grown e1.size)
    have r2 := relayAll_ris t2 e1 (SetTable.grown e1.size)
    have l2 := relayAll_led t2 e1 (SetTable.grown e1.size)
    generalize relayAll t2 e1 (SetTable.grown e1.size) = Z at p f2 r2 l2 ⊢
    obtain ⟨e2, t3, gave⟩ := Z
    dsimp only at p f2 r2 l2 ⊢
    have sz : e2.size = e1.size := by have := p.length_eq; rw [Array.length_toList, Array.length_toList] at this; exact this
    have m2 : ∀ k, S' k = true ↔ ∃ e ∈ e2.toList, knd.is k e.2 = true := fun k => by
      rw [hm k]
      exact exists_congr fun e => and_congr_left fun _ => p.mem_iff.symm
    refine wpAny_bind (hg _ _ _ (wpAny_bind (wpAny_storeSet_of g1 rfl ?_ (fits_of_scanBound (by rw [sz]; exact hb)))))
    have x2 := (storeX (knd := knd) g1 hex rfl (hel.perm p) m2 (by rw [sz]; exact hb) f2 r2 (l.imp id fun z => l2.trans z)).2
    rw [sz] at x2
    exact wpAny_pure (h _ (b1.trans (Heap.SameBut.update _ a _)) x2)
  · rw [if_neg c]
    exact wpAny_pure (h _ b1 x1)
theorem addX {a : Addr} {S : T → Bool} {n : Nat} {k : T} {x : Value} {Q : Bool → Shared → Prop} (key : knd.is k x = true) (sc : x.scannable = true) (hS : SetX knd w s.heap a S n) (room : n + 1 < scanBound)
    (h : ∀ h', Heap.SameBut a s.heap h' → SetX knd w h' a (fun z => S z || decide (z = k)) (if S k then n else n + 1) → Q (!S k) { s with heap := h' }) : wpAny (model prog w) A (setAddHashed a x (knd.hash k)) Q E s := by
  obtain ⟨o, es, ep, t, ho, ⟨hex, hd, hel, hm, hb, hf, hn⟩, r, l⟩ := hS
  unfold setAddHashed setAddHashedIn
  refine wpAny_holding (wpAny_bind (wpAny_setState_of ho hd hf ?_))
  dsimp only
  rw [byScan_of sc hb hel]
  simp only [↓reduceIte]
  unfold setAddByScan
  refine wpAny_bind (wpAny_bind (wpAny_rule (wpAny_bind (wpAny_setScan_of key ho hd hf hel ?_))))
  cases hr : List.findIdx? (fun e => knd.is k e.2) es.toList with
  | some j =>
    dsimp only
    obtain ⟨hj, pj, _⟩ := List.findIdx?_eq_some_iff_getElem.mp hr
    have Sk : S k = true := (hm k).mpr ⟨_, List.getElem_mem hj, pj⟩
    have same : (fun z => S z || decide (z = k)) = S := funext fun z => by
      by_cases c : z = k
      · rw [c, Sk]; rfl
      · rw [decide_eq_false c, Bool.or_false]
    have q := h s.heap (Heap.SameBut.refl a s.heap)
    rw [same, Sk] at q
    exact wpAny_pure (wpAny_pure (q ⟨o, es, ep, t, ho, ⟨hex, hd, hel, hm, hb, hf, hn⟩, r, l⟩))
  | none =>
    dsimp only
    have Sk : S k = false := by
      refine Bool.eq_false_iff.mpr fun z => ?_
      obtain ⟨e, he, p⟩ := (hm k).mp z
      rw [List.findIdx?_eq_none_iff.mp hr e he] at p
      cases p
    have gw : ∀ (b : Bool) {s₁ : Shared} {Q' : Unit → Shared → Prop}, Q' () s₁ → wpAny (model prog w) A (match b with | true => rule "set.scan.the-table-gave-way" | false => pure ()) Q' E s₁ :=
      fun b s₁ Q' q => by cases b <;> first | exact wpAny_pure q | exact wpAny_rule q
    have p := layNew_perm t es (knd.hash k) x
    have f1 := layNew_fits t es (knd.hash k) x
    have r1 := layNew_ris t es (knd.hash k) x r
    have l1 := layNew_led t es (knd.hash k) x
    generalize layNew t es (knd.hash k) x = Z at p f1 r1 l1 ⊢
    obtain ⟨e1, t1, wasDummy, gave⟩ := Z
    dsimp only at p f1 r1 l1 ⊢
    rw [Array.toList_push] at p
    have m1 : ∀ z, (S z || decide (z = k)) = true ↔ ∃ e ∈ e1.toList, knd.is z e.2 = true := mem_push_iff key hm p
    have sz : e1.size = n + 1 := by
      have := p.length_eq
      rw [List.length_append, Array.length_toList, Array.length_toList, hn] at this
      exact this
    have b1 : e1.size < scanBound := by rw [sz]; exact room
    have el1 : ElemsOf knd e1.toList := (hel.push key sc).perm p
    have led : w.params.followText "set-order" = true ∨ t1.led = true := l.imp id fun z => l1.trans z
    have fin : ∀ h', Heap.SameBut a s.heap h' → SetX knd w h' a (fun z => S z || decide (z = k)) e1.size → Q true { s with heap := h' } := fun h' sb q => by
      have := h h' sb
      rw [Sk] at this
      rw [sz] at q
      exact this q
    refine wpAny_bind (gw _ ?_)
    split
    · refine wpAny_bind ?_
      rw [hashByValue_scannable 8 sc]
      refine wpAny_pure (tailX (fun b s₁ Q' q => by cases b <;> first | exact wpAny_pure q | exact wpAny_rule q) ho hex hd el1 m1 b1 ?_ ?_ ?_ fun h' sb q => by dsimp only; exact wpAny_pure (fin h' sb q))
      · first | (split <;> first | exact f1 | exact SetTable.fits_plain_off f1) | exact f1
      · first | (split <;> exact r1) | exact r1
      · first | (split <;> exact led) | exact led
    · refine wpAny_bind (wpAny_pure ?_)
      simp only [↓reduceIte]
      exact tailX (fun b s₁ Q' q => by cases b <;> first | exact wpAny_pure q | exact wpAny_rule q) ho hex hd el1 m1 b1 f1 r1 led fun h' sb q => by dsimp only; exact wpAny_pure (fin h' sb q)
end
section
variable {prog : Program} {w : World} {A : Around} {R : Result → Shared → Prop} {E : Value → Shared → Prop} {I : Addr} {fp wr : List Addr} {G : Array GenState → Array GenState → Prop} {n : Nat} {P : Nat → Value → Prop} {St : Nat → Shared → Prop}
/-- the texts of a walk go into the set at S -/
theorem set_turnsX (W : WalksS prog w A.in1 I fp wr G n P St) {S : Addr} (far : S ∉ fp) {ts : List Str} (hl : ts.length = n) (hv : ∀ i v, P i v → ∃ x t, ts[i]? = some x ∧ v = .str x t) (hb : n + 1 < scanBound) : ∀ (k i : Nat) (s : Shared), n - i = k → i ≤ n → St i s →
    SetX (PySem.strKind prog w) w s.heap S (fun z => decide (z ∈ ts.take i)) (metS (ts.take i)).length →
    (∀ s', Moved (S :: wr) G s s' → SetX (PySem.strKind prog w) w s'.heap S (fun z => decide (z ∈ ts)) (metS ts).length → R (.ok (.ret .none)) s') → codeAny (model prog w) A (.builtin "set.update.loop" ⟨[.ref S, .ref I], []⟩) R s
  | 0, i, s, hk, hi, st, so, q => by
    obtain rfl : i = n := by omega
    rw [List.take_of_length_le (by omega)] at so
    refine codeAny_builtin PyProof.Rows.F.entry_set_update_loop ?_; rw [Around.under_plainId PyProof.Rows.F.plain_set_update_loop _]; show wpAny (model prog w) A.in1 (pyNext (.ref I) >>= _) _ _ s
    refine wpAny_bind (W.done s _ _ st fun s' mv => (?_ : wpAny (model prog w) A.in1 (ret Value.none) _ _ s'))
    obtain ⟨o, es, ep, t, ho, r⟩ := so
    exact wpAny_pure (q s' (mv.mono fun b => List.mem_cons_of_mem _) ⟨o, es, ep, t, mv.heap S _ (fun z => far (W.sub _ z)) ho, r⟩)
  | k + 1, i, s, hk, hi, st, so, q => by
    have lt : i < n := by omega
    refine codeAny_builtin PyProof.Rows.F.entry_set_update_loop ?_; rw [Around.under_plainId PyProof.Rows.F.plain_set_update_loop _]; show wpAny (model prog w) A.in1 (pyNext (.ref I) >>= _) _ _ s
    refine wpAny_bind (W.item i s _ _ lt st fun v s' hp st' mv => ?_)
    obtain ⟨x, t, hx, rfl⟩ := hv i v hp
    have so' : SetX (PySem.strKind prog w) w s'.heap S (fun z => decide (z ∈ ts.take i)) (metS (ts.take i)).length := by
      obtain ⟨o, es, ep, tb, ho, r⟩ := so
      exact ⟨o, es, ep, tb, mv.heap S _ (fun z => far (W.sub _ z)) ho, r⟩
    have et : ts.take (i + 1) = ts.take i ++ [x] := by rw [List.take_add_one, hx]; rfl
    have key : (PySem.strKind prog w).is x (.str x t) = true := strKind_is prog w x t
    have sm := metS_len (ts.take i)
    rw [List.length_take] at sm
    show wpAny _ A.in1 (holding [Value.str x t] (setAdd S (.str x t)) >>= _) _ _ s'
    refine wpAny_bind (wpAny_holding ?_)
    unfold setAdd
    refine wpAny_holding (wpAny_bind ((PySem.strKind prog w).pyHash key (addX (knd := PySem.strKind prog w) (s := { s' with toks := s'.toks + 1 }) key rfl so' (by omega) fun h' sb s2 => ?_)))
    have s3 : SetX (PySem.strKind prog w) w h' S (fun z => decide (z ∈ ts.take (i + 1))) (metS (ts.take (i + 1))).length := by
      refine setX_congr s2 (fun z => ?_) ?_
      · rw [et, ← Bool.decide_or]
        exact decide_eq_decide.mpr (by rw [List.mem_append, List.mem_singleton])
      · rw [et, metS_snoc]
        unfold met1
        simp only [metS_mem, decide_eq_true_eq]
        split
        · rfl
        · rw [List.length_append, List.length_singleton]
    refine wpAny_pure ⟨plainId_quiet PyProof.Rows.F.plain_set_update_loop _, set_turnsX W far hl hv hb k (i + 1) _ (by omega) lt (W.frame _ s' _ _ st' (Nat.le_succ _) fun b hm o e => (sb.2 b (fun z => far (z ▸ hm))).trans e) s3 fun s'' mw so2 => ?_⟩
    exact q s'' (Moved.trans W.gtrans ((mv.mono fun b => List.mem_cons_of_mem _).then_heap (Nat.le_succ _) fun b o hm e => (sb.2 b (fun z => hm (by rw [z]; exact List.mem_cons_self))).trans e) mw) so2
end
section
variable {prog : Program} {w : World} {A : Around} {E : Value → Shared → Prop} {s : Shared}
set_option maxHeartbeats 6400000 in
/-- set(x) of texts, x a list or a tuple -/
theorem call_setX {l nl : Nat} {T : String} {dd : Option Addr} {sl : Array (Option Value)} {items : Array Value} {it : Obj} {St : Addr → Nat → Shared → Prop} {ts : List Str} {Q : Value → Shared → Prop} (hh : A.handled = none)
    (ho : s.heap.get? l = some { cls := .type T, dict := dd, data := .seq items nl, slots := sl }) (notD : (Value.type T == Value.type "dict") = false) (notS : isSubtype (.type T) (.type "set") = pure false) (notF : isSubtype (.type T) (.type "frozenset") = pure false)
    (pit : ∀ (A : Around) (E : Value → Shared → Prop) (Q : Value → Shared → Prop) (s' : Shared), s'.heap.get? l = some { cls := .type T, dict := dd, data := .seq items nl, slots := sl } → Q (.ref s'.heap.objs.size) { s' with heap := s'.heap.push it } → wpAny (model prog w) A (pyIter (.ref l)) Q E s')
    (W : ∀ (A : Around) (I : Addr), A.handled = none → l ≠ I → WalksS prog w A I [I, l] [I] (fun a b => b = a) items.size (fun i v => items[i]? = some v) (St I))
    (st : ∀ s' : Shared, s'.heap.get? l = some { cls := .type T, dict := dd, data := .seq items nl, slots := sl } → St s'.heap.objs.size 0 { s' with heap := s'.heap.push it })
    (hz : ts.length = items.size) (hv : ∀ (i : Nat) v, items[i]? = some v → ∃ x t, ts[i]? = some x ∧ v = .str x t) (hb : items.size + 1 < scanBound)
    (h : ∀ (h' : Heap) (tk : Nat), SetX (PySem.strKind prog w) w h' s.heap.objs.size (fun z => decide (z ∈ ts)) (metS ts).length → (∀ b o, b < s.heap.objs.size → s.heap.get? b = some o → h'.get? b = some o) → Q (.ref s.heap.objs.size) { s with heap := h', toks := tk }) :
    wpAny (model prog w) A (call (.type "set") [.ref l]) Q E s := by
  obtain ⟨c, tl, mro⟩ := PySem.F.called_set.mro; have made := PySem.F.called_set.made; have sub := PySem.F.called_set.sub
  refine wpAny_call (codeAny_of_tree (?_ : wpAny _ _ (callAny (.type "set") _) _ _ _))
  refine wpAny_pure ⟨Code.quiet_builtin _ (by decide +kernel), codeAny_builtin PySem.F.entry_type_call ?_⟩; rw [Around.under_plain (weight_type_call_type "set" [.ref l] []) rfl]
  have n1 := PySem.F.called_set.notType; have n2 := PySem.F.called_set.canCreate; have n3 := PySem.F.typeCall_set_1 (.ref l)
  (repeat any_goals (first | assumption | wp_step))
  refine codeAny_mono (L2.code_set_led1 (.ref l) (E := E) (Q₁ := fun ob s1 => ob = .ref s.heap.objs.size ∧ s1 = { s with heap := s.heap.push { cls := .type "set", dict := none, data := .set #[] 0 (.fresh 0 0 (!w.params.followText "set-order")) } }) ⟨rfl, rfl⟩) fun r s1 hr => ?_
  match r, hr with
  | .error e, hr => exact hr
  | .ok .next, hr => exact hr.elim
  | .ok .brk, hr => exact hr.elim
  | .ok .cont, hr => exact hr.elim
  | .ok (.ret ob), ⟨e1, e2⟩ =>
    subst e1; subst e2
    have gS : (s.heap.push { cls := .type "set", dict := none, data := .set #[] 0 (.fresh 0 0 (!w.params.followText "set-order")) }).get? s.heap.objs.size = some { cls := .type "set", dict := none, data := .set #[] 0 (.fresh 0 0 (!w.params.followText "set-order")) } := Heap.get?_push_size _ rfl
    have tS : Shared.TypeIs { s with heap := s.heap.push { cls := .type "set", dict := none, data := .set #[] 0 (.fresh 0 0 (!w.params.followText "set-order")) } } (.ref s.heap.objs.size) "set" := ⟨_, gS, rfl⟩
    have i1 := PySem.F.called_set.init.lookup; have i2 := PySem.F.called_set.init.bind (.ref s.heap.objs.size)
    (repeat any_goals (first | assumption | wp_step))
    refine codeAny_mono (codeAny_call_builtin (R := wants (fun r s2 => r = .none ∧ ∃ h' tk, s2 = { s with heap := h', toks := tk } ∧ SetX (PySem.strKind prog w) w h' s.heap.objs.size (fun z => decide (z ∈ ts)) (metS ts).length ∧ (∀ b o, b < s.heap.objs.size → s.heap.get? b = some o → h'.get? b = some o)) E) PySem.F.called_set.init.plain PySem.F.entry_set_init (PySem.check_set_init_1 tS ?_)) fun r2 s2 hr2 => ?_
    · have ho1 : (s.heap.push { cls := .type "set", dict := none, data := .set #[] 0 (.fresh 0 0 (!w.params.followText "set-order")) }).get? l = some { cls := .type T, dict := dd, data := .seq items nl, slots := sl } := Heap.get?_push_of_some _ ho
      unfold Builtin.«set.__init__» noKeywords Builtin.Frozenset.updateFrom
      generalize ePI : pyIter = PI
      wp_walk
      subst ePI
      refine pit _ _ _ _ ho1 (wpAny_bind (wpAny_runValue ?_))
      have old : l < s.heap.objs.size := Heap.lt_size ho
      have sz : (s.heap.push { cls := .type "set", dict := none, data := .set #[] 0 (.fresh 0 0 (!w.params.followText "set-order")) }).objs.size = s.heap.objs.size + 1 := Heap.size_push ..
      have ne1 : l ≠ (s.heap.push { cls := .type "set", dict := none, data := .set #[] 0 (.fresh 0 0 (!w.params.followText "set-order")) }).objs.size := by rw [sz]; omega
      have far : s.heap.objs.size ∉ [(s.heap.push { cls := .type "set", dict := none, data := .set #[] 0 (.fresh 0 0 (!w.params.followText "set-order")) }).objs.size, l] := by
        rw [sz]; simp only [List.mem_cons, List.not_mem_nil, or_false, not_or]; omega
      refine set_turnsX (W _ _ (by simp [hh]) ne1) far hz hv hb (items.size - 0) 0 _ rfl (Nat.zero_le _) (st { s with heap := s.heap.push { cls := .type "set", dict := none, data := .set #[] 0 (.fresh 0 0 (!w.params.followText "set-order")) } } ho1) ?_ ?_
      · refine setX_congr (setX_fresh (Heap.get?_push_of_some _ gS)) (fun z => ?_) rfl
        simp
      · intro s' mv so
        obtain ⟨h', g', d', tk', os'⟩ := s'
        obtain rfl : g' = s.gens := mv.gens
        obtain rfl : d' = s.drawn := mv.drawn
        obtain rfl : os' = s.os := mv.os
        show wpAny _ _ _ _ _ _; refine wpAny_pure ?_; show wpAny _ _ (ret Value.none) _ _ _
        refine wpAny_pure ⟨rfl, h', tk', rfl, so, fun b o hb' e => mv.heap b o ?_ (Heap.get?_push_of_some _ (Heap.get?_push_of_some _ e))⟩
        simp only [List.mem_cons, List.not_mem_nil, or_false, not_or]; exact ⟨Nat.ne_of_lt hb', Nat.ne_of_lt (by rw [sz]; exact Nat.lt_succ_of_lt hb')⟩
    · match r2, hr2 with
      | .error e, hr2 => exact hr2
      | .ok .next, hr2 => exact hr2.elim
      | .ok .brk, hr2 => exact hr2.elim
      | .ok .cont, hr2 => exact hr2.elim
      | .ok (.ret r), ⟨e1, h', tk, e2, so, keep⟩ =>
        subst e1; subst e2
        (repeat any_goals (first | assumption | wp_step))
        exact h _ _ so keep
end
end V
namespace V
open PySem PySem.Spec PyProof.Rows L2 U StX
theorem perm_of_sub {α : Type} [BEq α] [LawfulBEq α] : ∀ {l ss : List α}, l.Nodup → (∀ x ∈ l, x ∈ ss) → l.length = ss.length → ss.Perm l
  | [], ss, _, _, h => by
    have : ss = [] := List.length_eq_zero_iff.mp h.symm
    rw [this]
  | x :: l, ss, d, m, h => by
    obtain ⟨d1, d2⟩ := List.nodup_cons.mp d
    have mx := m x List.mem_cons_self
    have p := List.perm_cons_erase mx
    have len := p.length_eq
    rw [List.length_cons] at len h
    refine p.trans (List.Perm.cons x (perm_of_sub d2 (fun y hy => ?_) (by omega)))
    have hy2 := p.mem_iff.mp (m y (List.mem_cons_of_mem _ hy))
    rcases List.mem_cons.mp hy2 with z | z
    · exact absurd (z ▸ hy) d1
    · exact z
section
variable {prog : Program} {w : World} {A : Around} {E : Value → Shared → Prop} {s : Shared}
def txt (v : Value) : Str := match v with | .str z _ => z | _ => Str.empty
theorem strs_map : ∀ (l : List Value), (∀ v ∈ l, ∃ z t, v = Value.str z t) → StrsAre l (l.map txt)
  | [], _ => .nil
  | v :: l, h => by
    obtain ⟨z, t, rfl⟩ := h v List.mem_cons_self
    exact .cons z t (strs_map l fun u hu => h u (List.mem_cons_of_mem _ hu))
theorem is_str {k : Str} {v : Value} (h : (PySem.strKind prog w).is k v = true) : ∃ t, v = .str k t := by
  cases v <;> simp [PySem.strKind, Value.isStrOf] at h
  exact ⟨_, by rw [h]⟩
theorem sorted_setX {a : Addr} {ts : List Str} {Q : Value → Shared → Prop} (x : SetX (PySem.strKind prog w) w s.heap a (fun z => decide (z ∈ ts)) (metS ts).length) (hh : A.handled = none) (h64 : (metS ts).length < 64)
    (hQ : ∀ s' p (out : Array Value) (c : Nat) (ys : List Str), (∀ b o, s.heap.get? b = some o → s'.heap.get? b = some o) → s'.gens = s.gens → s'.os = s.os → s.heap.objs.size ≤ p →
      s'.heap.get? p = some (seqObj "list" out c) → StrsAre out.toList ys → ys.Perm (metS ts) → sortedS ys = true → Q (.ref p) s') :
    wpAny (model prog w) A (call (.builtin "sorted") [.ref a]) Q E s := by
  obtain ⟨o, es, ep, t, ho, ⟨hex, hd, hel, hm, hb, hf, hn⟩, r, l⟩ := x
  refine Calls.call_function_entry kind_sorted plain_sorted entry_sorted (args_sorted1 _) ?_
  unfold Builtin.«sorted»
  refine wpAny_bind (m := checkCount "sorted" 1 1 _) (wpAny_pure ?_)
  refine wpAny_bind (collect_set (A := A.in1) hh ⟨o, ho, hex.1, hd⟩ hf hb r l fun s1 vs k1 hz g1 o1 pm => ?_)
  have hvl : vs.length = (metS ts).length := by rw [pm.length_eq, List.length_map, Array.length_toList]; exact hn
  have all : ∀ v ∈ vs, ∃ z t, v = Value.str z t := fun v hv => by
    obtain ⟨e, he, q⟩ := List.mem_map.mp (pm.mem_iff.mp hv)
    obtain ⟨⟨k, hk, _⟩, _⟩ := hel e he
    obtain ⟨t, ht⟩ := is_str hk
    exact ⟨k, t, by rw [← q]; exact ht⟩
  have hS := strs_map vs all
  have pk : (vs.map txt).Perm (metS ts) := by
    refine perm_of_sub (metS_nodup ts) (fun z hz => ?_) (by rw [List.length_map]; exact hvl.symm)
    obtain ⟨e, he, q⟩ := (hm z).mp (decide_eq_true ((metS_mem ts).mp hz))
    obtain ⟨t, ht⟩ := is_str q
    exact List.mem_map.mpr ⟨e.2, pm.mem_iff.mpr (List.mem_map.mpr ⟨e, he, rfl⟩), by rw [ht]; rfl⟩
  refine wpAny_bind (wpAny_newList ?_ (by rw [hvl, sizeLine_eq]; omega))
  have hoL : (s1.heap.push (seqObj "list" vs.toArray 0)).get? s1.heap.objs.size = some (seqObj "list" vs.toArray 0) := Heap.get?_push_size _ rfl
  refine wpAny_bind (wpAny_holding (wpAny_call_entry slot_list_sort ⟨_, hoL, rfl⟩ entry_list_sort (list_sort_treeK strKind_oneLt hoL hS.keysOf (fun v₁ v₂ rest e => keyKind_strs (by rw [← e]; exact hS)) (by rw [hvl]; exact h64) fun st' a1 a2 => ⟨_, rfl, ?_⟩) (args_list_sort _)))
  obtain ⟨ys, b1, b2, b3⟩ := sorted_out_str hS a1 a2
  obtain ⟨c, hc⟩ := sortedHeap_at (vs := vs) (out := (arrOf st').map (·.2)) hoL
  refine wpAny_pure ⟨_, rfl, hQ _ s1.heap.objs.size _ c ys (fun b u e => ?_) g1 o1 hz hc b1 (b2.trans pk) b3⟩
  have q := k1 b u e
  have hlt := Heap.lt_size q
  show (sortedHeap (s1.heap.push (seqObj "list" vs.toArray 0)) s1.heap.objs.size vs _).get? b = some u
  rw [sortedHeap_old (Nat.ne_of_lt hlt) (by rw [size_push']; exact Nat.lt_succ_of_lt hlt)]
  exact Heap.get?_push_of_some _ q
end
def tSortSet (K : PySem.W.Frag) (ta : TE) : TE := fun σ H Q => ta σ H fun x H1 => ∃ l ts, x = V.ref l ∧ (SqL K H1 l (ts.map V.str) ∨ SqT K H1 l (ts.map V.str)) ∧ ts.length ≤ 4000 ∧ (metS ts).length < 64 ∧
  ∀ (ys : List Str) (p : Addr), ys.Perm (metS ts) → sortedS ys = true → H1 p = none → Q (.ref p) (upd H1 p (.lst (ys.map V.str)))
theorem pe_sortSet {X : Cx} {K : PySem.W.Frag} {x : Expr} {tx : TE} {p1 p2 p3 p4 : Pos} (hK : X.K = K) (g1 : Gl X "sorted") (m1 : X.mg "sorted" = none) (g2 : Gl X "set") (m2 : X.mg "set" = none) (hx : PE X x tx)
    (hc : X.calm = true := by rfl) (ns1 : starEach [x] X.env = (false, eval x X.env) :: starEach [] X.env := by rfl) : PE X (.Call (.Name "sorted" p1) [.Call (.Name "set" p2) [x] [] p3] [] p4) (tSortSet K tx) := by
  subst hK
  constructor
  intro pins s σ H Q I h
  apply Call_ (ld_blt I g1 m1 boot_sorted _)
  apply callWith_builtin1 (args_cons _ rfl) rfl rfl
  apply Call_ (ld_blt I g2 m2 boot_set _)
  refine callWith_type1 (args_cons (thn (hx.run pins s σ H _ I h) fun u s1 hu => args_nil ?_) ns1) ns1 rfl
  obtain ⟨y, H1, I1, ry, l, ts, rfl, hs, hn0, hn, q⟩ := hu
  obtain rfl : u = .ref l := ry
  have fin : ∀ (h' : Heap) (tk : Nat), SetX (PySem.strKind X.prog X.w) X.w h' s1.heap.objs.size (fun z => decide (z ∈ ts)) (metS ts).length → (∀ b o, b < s1.heap.objs.size → s1.heap.get? b = some o → h'.get? b = some o) →
      wpAny (model X.prog X.w) X.A (spliced (backTo p4 (starEach [] X.env))) (fun vs s₂ => wpAny (model X.prog X.w) X.A (call (.builtin "sorted") (Value.ref s1.heap.objs.size :: vs)) (EP X pins σ Q) X.xe s₂) X.xe { s1 with heap := h', toks := tk } := fun h' tk so keep => args_nil (by
    have J := I1.kept (t' := tk) (h' := h') fun b o e => keep b o (Heap.lt_size e) e
    have small := metS_len ts
    refine sorted_setX (s := { s1 with heap := h', toks := tk }) so (J.ok.hd hc) (by omega) fun s' p out c ys k g o hp hg hi hpm hso => ?_
    have hlen : (ys.map V.str).length ≤ sizeLine := by rw [List.length_map, hpm.length_eq, sizeLine_eq]; omega
    have hno : H1 p = none := J.hok.fresh hp
    have J2 : Inv X pins σ (upd H1 p (.lst (ys.map V.str))) { s1 with heap := s'.heap, gens := s'.gens, drawn := s'.drawn, toks := s'.toks } :=
      Inv.call (s := { s1 with heap := h', toks := tk }) (ch := []) J (Un.laid k hp hno) (J.hok.laid k hp ⟨hlen, out.toList, c, vals_of_strs hi, hg⟩) (by rw [g]; exact J.bare) (fun _ z => nomatch z)
    have e : s' = { s1 with heap := s'.heap, gens := s'.gens, drawn := s'.drawn, toks := s'.toks } := by
      cases s'
      cases s1
      cases o
      rfl
    rw [e]
    exact ⟨.ref p, _, J2, rfl, q ys p hpm hso hno⟩)
  rcases hs with hs | hs
  · obtain ⟨its, r, pl, _⟩ := I1.list hs
    obtain ⟨⟨cls, dd, dt, sl⟩, ho, hcl, nl, hd⟩ := pl.isList
    simp only at hcl hd
    subst hcl
    subst hd
    obtain ⟨z1, z2⟩ := strs_item r
    exact call_setX (it := { cls := .type "list_iterator", data := .fields #[.ref l, .int 0 0] }) (St := fun I i s => s.heap.IsListIter I l i ∧ s.heap.IsList l its.toArray) (I1.ok.hd hc) ho (by decide) PySem.F.sub_list_set PySem.F.sub_list_frozenset
      (fun A E Q s' g q => wpAny_pyIter_list ⟨_, g, rfl, _, rfl⟩ q) (fun A I hA ne => (Walks.list hA I l ne its.toArray).toS) (fun s' g => ⟨⟨_, Heap.get?_push_size _ rfl, rfl, rfl⟩, ⟨_, Heap.get?_push_of_some _ g, rfl, _, rfl⟩⟩) z1 z2 (by unfold scanBound; omega) fun h' tk so keep => fin h' tk so keep
  · obtain ⟨its, r, pl, _⟩ := I1.tuple hs
    obtain ⟨⟨cls, dd, dt, sl⟩, ho, hcl, nl, hd⟩ := pl
    simp only at hcl hd
    subst hcl
    subst hd
    obtain ⟨z1, z2⟩ := strs_item r
    exact call_setX (it := { cls := .type "tuple_iterator", data := .fields #[.ref l, .int 0 0] }) (St := fun I i s => s.heap.IsTupleIter I l i ∧ s.heap.IsTuple l its.toArray) (I1.ok.hd hc) ho (by decide) PySem.F.sub_tuple_set PySem.F.sub_tuple_frozenset
      (fun A E Q s' g q => wpAny_pyIter_tuple ⟨_, g, rfl, _, rfl⟩ q) (fun A I hA ne => (Walks.tuple hA I l ne its.toArray).toS) (fun s' g => ⟨⟨_, Heap.get?_push_size _ rfl, rfl, rfl⟩, ⟨_, Heap.get?_push_of_some _ g, rfl, _, rfl⟩⟩) z1 z2 (by unfold scanBound; omega) fun h' tk so keep => fin h' tk so keep
def dSortSet (a : DE) : DE := fun δ M P => a δ M fun x M1 => ∃ ts : List Str, (isLs M1 x (ts.map D.str) ∨ x = .tup (ts.map D.str)) ∧ ts.length ≤ 4000 ∧ (metS ts).length < 64 ∧ ∀ ys : List Str, ys.Perm (metS ts) → sortedS ys = true → P (.lst (ys.map D.str)) M1
theorem dtA_strsD {S : Addr → Prop} {H : Hp} : ∀ ys : List Str, DtA S H (ys.map V.str) (ys.map D.str)
  | [] => .nil
  | z :: ys => .cons (.str z) (dtA_strsD ys)
instance pu_sortSet {K : PySem.W.Frag} {ta : TE} {da : DE} [A : PuE ta da] : PuE (tSortSet K ta) (dSortSet da) := ⟨fun S M σ δ H P Q w e h k =>
  A.run S M σ δ H _ _ w e h fun d S1 M1 v H1 p1 t1 w1 h1 => by
    obtain ⟨ts, h2, hn0, hn, p1⟩ := p1
    have go : ∀ (ys : List Str) (p : Addr), ys.Perm (metS ts) → sortedS ys = true → H1 p = none → Q (.ref p) (upd H1 p (.lst (ys.map V.str))) := fun ys p q1 q2 hp =>
      k _ S1 M1 _ _ (p1 ys q1 q2) (t1.trans (.new hp)) (w1.new hp) (.lst (w1.ns hp) upd_same (dtA_strsD ys))
    rcases h2 with h2 | rfl
    · obtain ⟨a, us, rfl, ha, hs⟩ := ls_get w1 h1 h2
      have eu := hs.strs_eq
      subst eu
      exact ⟨a, ts, rfl, .inl (SqL.of ha), hn0, hn, go⟩
    · cases h1 with
      | tup n ha hs =>
        have eu := hs.strs_eq
        subst eu
        exact ⟨_, ts, rfl, .inr (SqT.of ha), hn0, hn, go⟩⟩
theorem x_sortSet {a : DE} {δ : Dl} {M : Mem} {P : QD} (h : a δ M fun x M1 => ∃ ts : List Str, (isLs M1 x (ts.map D.str) ∨ x = .tup (ts.map D.str)) ∧ ts.length ≤ 4000 ∧ (metS ts).length < 64 ∧ ∀ ys : List Str, ys.Perm (metS ts) → sortedS ys = true → P (.lst (ys.map D.str)) M1) : dSortSet a δ M P := h
end V
namespace V
open PySem PySem.Spec PyProof.Rows L2 U StX
/-- a and b stand for like things of class C, of which G holds -/
def Like (C : Addr) (G : D → D → Prop) (a b : Addr) (H : Hp) : Prop := ∃ n1 x1 n2 x2, Dt N0 H (.ref a) (.ins C n1 x1) ∧ Dt N0 H (.ref b) (.ins C n2 x2) ∧ G (.ins C n1 x1) (.ins C n2 x2)
section
variable {X : Cx} {n : Nat} {f C : Addr} {fd : FuncData} {ps : List Str} {sp : DC} {G : D → D → Prop}
def EqRow (K : PySem.W.Frag) (C : Addr) (G : D → D → Prop) : L2.Eqv := fun x y H => L2.DList (L2.DIns C (Like C G)) x y H ∨ L2.DTup K (L2.DIns C (Like C G)) x y H
end
def rEqRowD (C : Addr) (G : D → D → Prop) : DR := fun x y M P => ∃ xs ys : List D, ((x = .lst xs ∧ y = .lst ys) ∨ (x = .tup xs ∧ y = .tup ys)) ∧ xs.length = ys.length ∧ (∀ (i : Nat) d e, xs[i]? = some d → ys[i]? = some e → (∃ n1 x1 n2 x2, d = .ins C n1 x1 ∧ e = .ins C n2 x2) ∧ G d e) ∧ P (.bl true) M
theorem dtA_at {S : Addr → Prop} {H : Hp} : ∀ {vs : List V} {ds : List D}, DtA S H vs ds → ∀ {i : Nat} {v : V}, vs[i]? = some v → ∃ d, ds[i]? = some d ∧ Dt S H v d
  | _, _, .cons h t, 0, v, e => ⟨_, rfl, by cases e; exact h⟩
  | _, _, .cons h t, i + 1, v, e => dtA_at t (i := i) e
  | _, _, .nil, _, _, e => by simp at e
theorem prs_of {C : Addr} {G : D → D → Prop} {S : Addr → Prop} {H : Hp} {vs us : List V} {xs ys : List D} (h1 : DtA S H vs xs) (h2 : DtA S H us ys) (hl : xs.length = ys.length)
    (q : ∀ (i : Nat) d e, xs[i]? = some d → ys[i]? = some e → (∃ n1 x1 n2 x2, d = .ins C n1 x1 ∧ e = .ins C n2 x2) ∧ G d e) : L2.Prs (L2.DIns C (Like C G)) vs us H := by
  refine ⟨by rw [h1.length, h2.length, hl], fun i x y hx hy => ?_⟩
  obtain ⟨d, hd, k1⟩ := dtA_at h1 hx
  obtain ⟨e, he, k2⟩ := dtA_at h2 hy
  obtain ⟨⟨n1, x1, n2, x2, rfl, rfl⟩, g⟩ := q i d e hd he
  have m1 := Dt.set (S' := N0) (fun _ _ _ z => z) _ k1
  have m2 := Dt.set (S' := N0) (fun _ _ _ z => z) _ k2
  cases k1 with
  | ins _ ha _ _ => cases k2 with
    | ins _ hb _ _ => exact ⟨_, _, _, _, _, _, rfl, rfl, ha, hb, n1, x1, n2, x2, m1, m2, g⟩
instance op_eqRowD {K : PySem.W.Frag} {C : Addr} {G : D → D → Prop} : OpD (L2.rEqG (EqRow K C G)) (rEqRowD C G) := ⟨fun S M H x y dx dy P Q w hx hy h k => by
  obtain ⟨xs, ys, c, hl, q, p⟩ := h
  refine ⟨?_, fun H' e => k _ S M _ H' p (.same e) (w.same e) (.bl _)⟩
  rcases c with ⟨rfl, rfl⟩ | ⟨rfl, rfl⟩
  · cases hx with
    | lst _ ha hs => cases hy with
      | lst _ hb ht => exact .inl ⟨_, _, _, _, rfl, rfl, ha, hb, prs_of hs ht hl q⟩
  · cases hx with
    | tup _ ha hs => cases hy with
      | tup _ hb ht => exact .inr ⟨_, _, _, _, rfl, rfl, SqT.of ha, SqT.of hb, prs_of hs ht hl q⟩⟩
end V
namespace V
open PySem PySem.Spec PyProof.Rows L2 U StX
section
variable {X : Cx}
/-- t.index(x), all ints or all texts: the first place -/
def rTIdx (K : PySem.W.Frag) : V → List V → Hp → VK → Prop := fun x xs H Q => ∃ p j, x = .ref p ∧ ((∃ (ys : List Str) (z : Str), xs = [.str z] ∧ SqT K H p (ys.map V.str) ∧ ys[j]? = some z ∧ (∀ m, m < j → ys[m]? ≠ some z)) ∨
  ∃ (ys : List Int) (z : Int), xs = [.int z] ∧ SqT K H p (ys.map V.int) ∧ ys[j]? = some z ∧ (∀ m, m < j → ys[m]? ≠ some z)) ∧ Q (.int (j : Nat)) H
theorem flat_ints (ys : List Int) : (ys.map V.int).all flatV = true := by
  rw [List.all_map]
  exact List.all_eq_true.mpr fun _ _ => rfl
theorem mt_tidx {K : PySem.W.Frag} (hK : X.K = K) : MtR X "tuple.index" (rTIdx K) := by
  subst hK
  intro pins s σ H x xs v us Q I rx rs h
  obtain ⟨p, j, rfl, ⟨ys, z, rfl, hq, hy, hno⟩ | ⟨ys, z, rfl, hq, hy, hno⟩, q⟩ := h
  · exact mt_tup_index pins s σ H _ _ v us Q I rx rs ⟨p, ys, z, j, rfl, rfl, hq, hy, hno, q⟩
  cases rx
  obtain ⟨u, rfl, t, rfl⟩ := vals1 rs
  obtain ⟨its, r, pl, hz⟩ := I.tuple hq
  obtain ⟨⟨cls, dd, dt, sl⟩, ho, hc, n, hd⟩ := pl
  simp only at hc hd
  subst hc
  subst hd
  have hl : its.toArray.size = ys.length := by rw [List.size_toArray, ← r.length, List.length_map]
  have hj : j < its.toArray.size := by rw [hl]; exact (List.getElem?_eq_some_iff.mp hy).1
  have at' : ∀ (m : Nat) (hm : m < its.toArray.size), ∃ y t', ys[m]? = some y ∧ its.toArray[m] = Value.int y t' := fun m hm => by
    have hm' : m < ys.length := by rw [← hl]; exact hm
    obtain ⟨w, hw, t', hw'⟩ := r.get (i := m) (x := .int ys[m]) (by simp [hm'])
    refine ⟨ys[m], t', List.getElem?_eq_getElem hm', ?_⟩
    have e := (List.getElem?_eq_some_iff.mp hw).2
    rw [← hw', ← e]
    simp
  refine call_meets PySem.F.slot_tuple_index ⟨_, ho, rfl⟩ PySem.F.entry_tuple_index (PySem.F.args_tuple_index_2 _ _) (TI.tuple_indexAt p its.toArray n dd sl (.int z t) (eqU (.int z)) j hj ?_ ?_)
    ⟨ho, fun w hw => mem_eqAt (x := .int z) ⟨t, rfl⟩ rfl r (flat_ints ys) w (by simpa using hw), ⟨.int (j : Nat), H, I.tok _, ⟨_, rfl⟩, q⟩⟩
  · obtain ⟨y, t', h1, h2⟩ := at' j hj
    rw [hy] at h1
    cases h1
    rw [h2]
    show (z == z) = true
    exact beq_self_eq_true z
  · intro m hm hmj
    obtain ⟨y, t', h1, h2⟩ := at' m hm
    rw [h2]
    show (y == z) = false
    exact beq_eq_false_iff_ne.mpr fun e => hno m hmj (e ▸ h1)
end
/-- t.index(x), t such a tuple -/
def tTIdx (K : PySem.W.Frag) (to : TE) (t : TA) : TE := fun σ H Q => to σ H fun x H1 => (∃ p o xs, x = .ref p ∧ H1 p = some (.frz o (.tup xs)) ∧ o.dict = none) ∧ t σ H1 fun xs H2 => rTIdx K x xs H2 Q
section
variable {X : Cx} {o e : Expr} {es : List Expr} {to : TE} {t : TA} {apos cpos : Pos}
theorem pe_tidx {K : PySem.W.Frag} (hK : X.K = K) (ho : PE X o to) (ha : PA X (e :: es) t)
    (hbase : attributeBase o "index" X.env (eval o X.env) = eval o X.env := by rfl)
    (hfew : ((backTo cpos (starEach (e :: es) X.env)).all (fun x => !x.1) && (backToKw cpos (keywordEach [] X.env)).all (fun x => x.1.isSome)
      && decide ((e :: es).length + ([] : List Keyword).length + (if ([] : List Keyword).isEmpty then 0 else 1) < 30)) = true := by rfl)
    (hline : (apos.endLine == cpos.line) = true := by rfl) (hs : starEach (e :: es) X.env = (false, eval e X.env) :: starEach es X.env := by rfl) (hplain : (backTo cpos (starEach es X.env)).any (·.1) = false := by rfl) :
    PE X (.Call (.Attribute o "index" apos) (e :: es) [] cpos) (tTIdx K to t) := by
  subst hK
  refine ⟨fun pins s σ H Q I h => ?_⟩
  refine wpAny_Call_method_late hbase hfew hline rfl (thn (ho.run pins s σ H _ I h) fun v s1 ⟨x, H1, I1, r1, ⟨p, ob, xs, ex, hp, hd⟩, q1⟩ => ?_)
  subst ex
  obtain rfl : v = .ref p := r1
  obtain ⟨ho1, hz, its, rv, o2, ho2, hc2, n2, hd2⟩ := I1.hok p _ hp
  refine ⟨"tuple", "tuple.index", PySem.F.plainAttrs_tuple, PySem.F.slot_tuple_index, PySem.F.type_tuple_index, ⟨_, ho2, hc2⟩, fun a ea => ?_, ?_⟩
  · cases ea
    exact ⟨ob, ho1, hd⟩
  · have hA := ha.run cpos pins s1 σ H1 _ I1 q1
    rw [hs] at hA ⊢
    refine Calls.callWith_builtin (by show (false || (backTo cpos (starEach es X.env)).any (·.1)) = false; rw [hplain] <;> rfl) (Calls.evalArgs_plain ?_)
    exact thn hA fun us s2 ⟨vs, H2, I2, r2, q2⟩ => mt_tidx rfl pins s2 σ H2 (.ref p) vs (.ref p) us Q I2 rfl r2 q2
/-- (.., ..), a tuple known to have no dict -/
def tTupF (t : TA) : TE := fun σ H Q => t σ H fun xs H1 => xs.length ≤ sizeLine ∧ ∀ p o, H1 p = none → o.dict = none → Q (.ref p) (upd H1 p (.frz o (.tup xs)))
theorem pe_tupF {x1} {pos : Pos} (h : PA X es t) : PE X (.Tuple es x1 pos) (tTupF t) := by
  refine ⟨fun pins s σ H Q I hq => ?_⟩
  refine wpAny_Tuple_spliced (thn (h.run pos pins s σ H _ I hq) fun us s1 ⟨xs, H1, I1, r, z, q⟩ => ⟨by rw [← r.length]; exact z, ?_⟩)
  have hf : H1 s1.heap.objs.size = none := I1.hok.fresh (Nat.le_refl _)
  exact ⟨.ref s1.heap.objs.size, upd H1 s1.heap.objs.size (.frz { cls := .type "tuple", data := .seq us.toArray } (.tup xs)), I1.laid (t' := s1.toks) (fun b u e => Heap.get?_push_of_some _ e) (Nat.le_refl _)
    (show ObjOk X.prog X.w _ _ _ (.frz _ (.tup xs)) from ⟨Heap.get?_push_size _ rfl, z, us, r, ⟨_, Heap.get?_push_size _ rfl, rfl, _, rfl⟩⟩), rfl, q _ _ hf rfl⟩
/-- tuple(xs), xs a list: a tuple known to have no dict -/
def kTupF (K : PySem.W.Frag) (x : V) (H : Hp) (Q : VK) : Prop := ∃ p xs, x = .ref p ∧ SqL K H p xs ∧ ∀ q o, H q = none → o.dict = none → Q (.ref q) (upd H q (.frz o (.tup xs)))
end
/-- x.index(y) -/
def idxAt (xs ds : List D) (j : Nat) : Prop := (∃ (ys : List Str) (z : Str), ds = [.str z] ∧ xs = ys.map D.str ∧ ys[j]? = some z ∧ (∀ m, m < j → ys[m]? ≠ some z)) ∨
  ∃ (ys : List Int) (z : Int), ds = [.int z] ∧ xs = ys.map D.int ∧ ys[j]? = some z ∧ (∀ m, m < j → ys[m]? ≠ some z)
def dTIdx (a : DE) (b : DA) : DE := fun δ M P => a δ M fun x M1 => ∃ xs, x = .ftp xs ∧ b δ M1 fun ds M2 => ∃ j, idxAt xs ds j ∧ P (.int (j : Nat)) M2
instance pu_tidx {K : PySem.W.Frag} {ta : TE} {tb : TA} {da : DE} {db : DA} [A : PuE ta da] [B : PuA tb db] : PuE (tTIdx K ta tb) (dTIdx da db) := ⟨fun S M σ δ H P Q w e h k =>
  A.run S M σ δ H _ _ w e h fun d S1 M1 v H1 p1 t1 w1 h1 => by
    obtain ⟨xs, rfl, p1⟩ := p1
    have h1' := h1
    cases h1 with
    | @ftp a ob vs _ n ha hd hs =>
      refine ⟨⟨a, ob, vs, rfl, ha, hd⟩, B.run S1 M1 σ δ H1 _ _ w1 (e.step w t1) p1 fun d2 S2 M2 v2 H2 p2 t2 w2 h2 => ?_⟩
      obtain ⟨j, p2, q⟩ := p2
      have h3 := dt_step w1 t2 _ h1'
      cases h3 with
      | @ftp _ o3 us _ n3 ha3 hd3 hs3 =>
        rcases p2 with ⟨ys, z, rfl, rfl, hy, hno⟩ | ⟨ys, z, rfl, rfl, hy, hno⟩
        · have eu := hs3.strs_eq
          subst eu
          match v2, h2 with
          | [_], .cons (.str _) .nil => exact ⟨a, j, rfl, .inl ⟨ys, z, rfl, Or.inl (Or.inr ⟨_, ha3⟩), hy, hno⟩, k _ S2 M2 _ H2 q (t1.trans t2) w2 (.int _)⟩
        · have eu := hs3.ints_eq
          subst eu
          match v2, h2 with
          | [_], .cons (.int _) .nil => exact ⟨a, j, rfl, .inr ⟨ys, z, rfl, Or.inl (Or.inr ⟨_, ha3⟩), hy, hno⟩, k _ S2 M2 _ H2 q (t1.trans t2) w2 (.int _)⟩⟩
theorem x_tidx {a : DE} {b : DA} {δ : Dl} {M : Mem} {P : QD} (h : a δ M fun x M1 => ∃ xs, x = .ftp xs ∧ b δ M1 fun ds M2 => ∃ j, idxAt xs ds j ∧ P (.int (j : Nat)) M2) : dTIdx a b δ M P := h
def dTupF (t : DA) : DE := fun δ M P => t δ M fun xs M1 => xs.length ≤ sizeLine ∧ P (.ftp xs) M1
instance pu_tupF {t : TA} {dt : DA} [A : PuA t dt] : PuE (tTupF t) (dTupF dt) := ⟨fun S M σ δ H P Q w e h k =>
  A.run S M σ δ H _ _ w e h fun d S1 M1 v H1 p1 t1 w1 h1 => ⟨by rw [h1.length]; exact p1.1, fun p o np hd =>
    k _ S1 M1 _ _ p1.2 (t1.trans (.new np)) (w1.new np) (.ftp (w1.ns np) upd_same hd (h1.sm (Same.new np)))⟩⟩
theorem x_tupF {t : DA} {δ : Dl} {M : Mem} {P : QD} (h : t δ M fun xs M1 => xs.length ≤ sizeLine ∧ P (.ftp xs) M1) : dTupF t δ M P := h
def kTupF1 (x : D) (M : Mem) (P : QD) : Prop := ∃ xs, isLs M x xs ∧ P (.ftp xs) M
instance pu_tupOfF {K : PySem.W.Frag} {ta : TE} {da : DE} [A : PuE ta da] : PuE (tThen ta (kTupF K)) (dThen da kTupF1) := ⟨fun S M σ δ H P Q w e h k =>
  A.run S M σ δ H _ _ w e h fun d S1 M1 v H1 p1 t1 w1 h1 => by
    obtain ⟨xs, h2, p1⟩ := p1
    obtain ⟨a, us, rfl, ha, hs⟩ := ls_get w1 h1 h2
    exact ⟨a, us, rfl, SqL.of ha, fun p o np hd => k _ S1 M1 _ _ p1 (t1.trans (.new np)) (w1.new np) (.ftp (w1.ns np) upd_same hd (hs.sm (Same.new np)))⟩⟩
theorem x_tfL {xs : List D} {M : Mem} {P : QD} (p : P (.ftp xs) M) : kTupF1 (.lst xs) M P := ⟨xs, .inl rfl, p⟩
def dPopAt (a : DE) (b : DA) : DE := fun δ M P => a δ M fun x M1 => ∃ l, x = .ptr l ∧ (∃ xs, M1 l = some (.lst xs)) ∧ b δ M1 fun ys M2 => ∃ xs i d, ys = [.int (i : Nat)] ∧ M2 l = some (.lst xs) ∧ i < 1000000 ∧ xs[i]? = some d ∧ P d (mset M2 l (.lst (xs.eraseIdx i)))
theorem dtA_erase {S : Addr → Prop} {H : Hp} : ∀ {vs : List V} {ds : List D} (i : Nat), DtA S H vs ds → DtA S H (vs.eraseIdx i) (ds.eraseIdx i)
  | [], [], _, .nil => .nil
  | _ :: _, _ :: _, 0, .cons _ t => t
  | _ :: _, _ :: _, i + 1, .cons h t => .cons h (dtA_erase i t)
theorem seqIx_nat {i n : Nat} (h : i < n) : seqIndex? ((i : Nat) : Int) n = some i := by
  unfold seqIndex?
  simp only [show ¬ (((i : Nat) : Int) < 0) by omega, if_false]
  simp [show ((i : Nat) : Int) < (n : Nat) by omega]
instance pu_popAt {K : PySem.W.Frag} {ta : TE} {tb : TA} {da : DE} {db : DA} [A : PuE ta da] [B : PuA tb db] : PuE (tBM K "list" rPopAt ta tb) (dPopAt da db) := ⟨fun S M σ δ H P Q w e h k =>
  A.run S M σ δ H _ _ w e h fun d S1 M1 v H1 p1 t1 w1 h1 => by
    obtain ⟨l, rfl, ⟨xs, hx⟩, p1⟩ := p1
    cases h1
    obtain ⟨_, vs, ha, hs⟩ := w1.mem l _ hx
    refine ⟨.inl ⟨rfl, _, SqL.of ha⟩, B.run S1 M1 σ δ H1 _ _ w1 (e.step w t1) p1 fun d2 S2 M2 v2 H2 p2 t2 w2 h2 => ?_⟩
    obtain ⟨xs, i, y, rfl, hm, hlt, hy, p2⟩ := p2
    obtain ⟨sl, vs, ha, hs⟩ := w2.mem l _ hm
    match v2, h2 with
    | [_], .cons (.int _) .nil =>
      have ex : Ext S2 H2 (upd H2 l (.lst (vs.eraseIdx i))) := Ext.mut (Ext.refl _) sl
      obtain ⟨u, hu, hd⟩ := hs.get hy
      have hvi : i < vs.length := (List.getElem?_eq_some_iff.mp hu).1
      exact ⟨l, vs, _, i, u, rfl, rfl, ha, by omega, by omega, seqIx_nat hvi, hu, k _ _ _ _ _ p2 ((t1.trans t2).trans (.change hm)) (w2.change hm ⟨_, upd_same, (dtA_erase i hs).go ex⟩) (hd.go ex)⟩⟩
def tLstRgM (t : TR) : TE := tLstRg t
def dLstRgM (t : DRg) : DE := fun δ M P => t δ M fun a b M1 => RgOk a b ∧ ∀ q, M1 q = none → P (.ptr q) (mset M1 q (.lst (rgD a b)))
instance pu_lstRgM {t : TR} {dt : DRg} [A : PuRg t dt] : PuE (tLstRgM t) (dLstRgM dt) := ⟨fun S M σ δ H P Q w e h k =>
  A.run S M σ δ H _ _ w e h fun i j S1 M1 H1 p1 t1 w1 => ⟨p1.1, fun p np => k _ _ _ _ _ (p1.2 p (w1.fresh np)) (t1.trans (Step.mutable w1 np)) (w1.mutable np ⟨_, upd_same, (DtA.set (fun b n k z => z.elim n fun q => k (by rw [q]; exact np)) _ (dt_rgD (S := S1) (H := H1) i j)).sm (Same.new np)⟩) (.ptr p)⟩⟩
theorem x_lstRgM {t : DRg} {δ : Dl} {M : Mem} {P : QD} (h : t δ M fun a b M1 => RgOk a b ∧ ∀ q, M1 q = none → P (.ptr q) (mset M1 q (.lst (rgD a b)))) : dLstRgM t δ M P := h
end V
namespace V
open PySem PySem.Spec PyProof.Rows L2 U StX
section
variable {δ : Dl} {M : Mem} {P : QD} {PS : Str → Mem → Prop} {acc z : Str} {d : DE} {ds : List DE} {i : Nat}
theorem x_js0 (h : PS acc M) : dJs [] acc δ M PS := h
theorem x_js (h : d δ M fun x M1 => ∃ y : Str, x = .str y ∧ (acc ++ y).length ≤ sizeLine ∧ dJs ds (acc ++ y) δ M1 PS) : dJs (d :: ds) acc δ M PS := h
theorem log_small {n : Nat} (h : n < 1000000) : ((n : Nat) : Int).natAbs.log2 < 1920 := by
  rw [Int.natAbs_natCast]
  have : n.log2 < 20 := by
    by_cases c : n = 0
    · subst c; decide
    · exact (Nat.log2_lt c).mpr (by omega)
  omega
end
end V
namespace V
open PySem PySem.Spec PyProof.Rows L2 U StX
/-- what is wished of an exception: its class, its fields -/
abbrev QX := Addr → List (Str × D) → Mem → Prop
def AtX (S : Addr → Prop) (M : Mem) (H : Hp) (q : QX) (E : XK) : Prop := ∀ C fs S' M' d H', q C fs M' → Step S M H S' M' H' → Wo S' M' H' → XF S' H' d fs → E (.ref C) d H'
theorem AtX.go {S S' : Addr → Prop} {M M' : Mem} {H H' : Hp} {q : QX} {E : XK} (a : AtX S M H q E) (t : Step S M H S' M' H') : AtX S' M' H' q E := fun C fs S2 M2 d H2 p t2 w2 x => a C fs S2 M2 d H2 p (t.trans t2) w2 x
abbrev DCX := List D → Mem → QD → QX → Prop
def liftX (sp : DCX) : Sp := fun vs H Q E => ∃ S M ds P q, Wo S M H ∧ DtA S H vs ds ∧ sp ds M P q ∧ AtE S M H P Q ∧ AtX S M H q E
class PuXE (E : XK) (t : TE) (dt : outParam (QX → DE)) : Prop where
  run : ∀ S M σ δ H P q Q, Wo S M H → En S H σ δ → dt q δ M P → AtE S M H P Q → AtX S M H q E → t σ H Q
class PuXS (E : XK) (t : TS) (dt : outParam (QX → DS)) : Prop where
  run : ∀ S M σ δ H nx rt bk ct (D : Ends) q, Wo S M H → En S H σ δ → dt q nx rt bk ct δ M → Lk S M H nx rt bk ct D → AtX S M H q E → t D σ H
abbrev sSeqX (a b : QX → DS) : QX → DS := fun q => sSeq (a q) (b q)
abbrev sDropX (a : QX → DE) : QX → DS := fun q => sDrop (a q)
abbrev sRetX (a : QX → DE) : QX → DS := fun q => sRet (a q)
abbrev sIfX (c : DT) (a b : QX → DS) : QX → DS := fun q => sIf c (a q) (b q)
abbrev sAsgX (a : QX → DE) (g : DG) : QX → DS := fun q => sAsg (a q) g
abbrev sForX (i : DI) (g : DG) (a : QX → DS) : QX → DS := fun q => sFor i g (a q)
section
variable {E : XK} {ta : TE} {da : DE} {t u : TS} {dt du : QX → DS} {dtp : DS} {dx : QX → DE}
instance (priority := low) pux_liftE [A : PuE ta da] : PuXE E ta (fun _ => da) := ⟨fun S M σ δ H P q Q w e h k _ => A.run S M σ δ H P Q w e h k⟩
instance (priority := low) pux_liftS [A : PuS t dtp] : PuXS E t (fun _ => dtp) := ⟨fun S M σ δ H nx rt bk ct D q w e h l _ => A.run S M σ δ H nx rt bk ct D w e h l⟩
instance pux_seq [A : PuXS E t dt] [B : PuXS E u du] : PuXS E (tSeq t u) (sSeqX dt du) := ⟨fun S M σ δ H nx rt bk ct D q w e h l x =>
  A.run S M σ δ H _ _ _ _ _ q w e h ⟨fun δ1 S1 M1 σ1 H1 p1 t1 w1 e1 => B.run S1 M1 σ1 δ1 H1 nx rt bk ct D q w1 e1 p1 (l.go t1) (x.go t1), l.rt, l.bk, l.ct⟩ x⟩
instance pux_drop [A : PuXE E ta dx] : PuXS E (tDrop ta) (sDropX dx) := ⟨fun S M σ δ H nx rt bk ct D q w e h l x =>
  A.run S M σ δ H _ q _ w e h (fun d S1 M1 v H1 p1 t1 w1 h1 => l.nx _ S1 M1 _ H1 p1 t1 w1 (e.step w t1)) x⟩
instance pux_ret [A : PuXE E ta dx] : PuXS E (tRet ta) (sRetX dx) := ⟨fun S M σ δ H nx rt bk ct D q w e h l x => A.run S M σ δ H _ q _ w e h l.rt x⟩
instance pux_ifS {c : TT} {dc : DT} [C : PuT c dc] [A : PuXS E t dt] [B : PuXS E u du] : PuXS E (tIfS c t u) (sIfX dc dt du) := ⟨fun S M σ δ H nx rt bk ct D q w e h l x =>
  C.run S M σ δ H _ _ w e h fun b S1 M1 H1 p1 t1 w1 => by
    cases b with
    | true =>
      rw [if_pos rfl] at p1 ⊢
      exact A.run S1 M1 σ δ H1 nx rt bk ct D q w1 (e.step w t1) p1 (l.go t1) (x.go t1)
    | false =>
      rw [if_neg Bool.false_ne_true] at p1 ⊢
      exact B.run S1 M1 σ δ H1 nx rt bk ct D q w1 (e.step w t1) p1 (l.go t1) (x.go t1)⟩
instance pux_asg {g : TG} {dg : DG} {sl : List Nat} [A : PuXE E ta dx] [B : PuG g dg sl] : PuXS E (tAsg ta g) (sAsgX dx dg) := ⟨fun S M σ δ H nx rt bk ct D q w e h l x =>
  A.run S M σ δ H _ q _ w e h (fun d S1 M1 v H1 p1 t1 w1 h1 =>
    B.run S1 M1 σ δ H1 v d _ _ w1 (e.step w t1) h1 p1 fun δ2 S2 M2 σ2 H2 p2 t2 w2 e2 _ => l.nx δ2 S2 M2 σ2 H2 p2 (t1.trans t2) w2 e2) x⟩
instance pux_for {ti : TI} {g : TG} {di : DI} {dg : DG} {sl : List Nat} [I : PuI ti di] [A : PuG g dg sl] [B : PuXS E t dt] : PuXS E (tFor ti g t) (sForX di dg dt) := ⟨fun S M σ δ H nx rt bk ct D q w e h l xx =>
  I.run S M σ δ H _ _ w e h fun G xs S1 M1 H1 J p1 t1 w1 wk => by
    refine ⟨fun i m σ' H' => i ≤ xs.length ∧ m = xs.length - i ∧ ∃ S' M' δ', G M' ∧ dLoop G dg (dt q) nx rt (xs.drop i) δ' M' ∧ Step S1 M1 H1 S' M' H' ∧ Wo S' M' H' ∧ En S' H' σ' δ', ⟨_, Nat.zero_le _, rfl, S1, M1, δ, p1.1, p1.2, .refl, w1, e.step w t1⟩, ?_⟩
    rintro i m σ2 H2 ⟨hi, rfl, S2, M2, δ2, g2, p2, t2, w2, e2⟩
    by_cases hlt : i < xs.length
    · refine .inr ⟨wk.go i S2 M2 H2 hlt t2 w2 g2, fun σ' H' => ∃ S' M' δ', G M' ∧ dLoop G dg (dt q) nx rt (xs.drop (i + 1)) δ' M' ∧ Step S1 M1 H1 S' M' H' ∧ Wo S' M' H' ∧ En S' H' σ' δ', ?_, ?_⟩
      · rintro σ' H' q
        exact ⟨_, by omega, hlt, rfl, q⟩
      · intro x H3 y
        obtain ⟨same, d, hd, hx⟩ := wk.yld i S2 M2 H2 x H3 hlt t2 w2 g2 y
        rw [drop_cons hd] at p2
        have t3 : Step S2 M2 H2 S2 M2 H3 := .same same
        have w3 := w2.same same
        refine A.run S2 M2 σ2 δ2 H3 x d _ _ w3 (e2.step w2 t3) hx p2 fun δ4 S4 M4 σ4 H4 p4 t4 w4 e4 _ => ?_
        have t14 := (t2.trans t3).trans t4
        refine B.run S4 M4 σ4 δ4 H4 _ _ _ _ _ q w4 e4 p4 ⟨?_, l.rt.go (t1.trans t14), fun a b c d e p t5 w f => l.nx a b c d e p ((t1.trans t14).trans t5) w f, ?_⟩ (xx.go (t1.trans t14))
        · rintro δ5 S5 M5 σ5 H5 ⟨g5, p5⟩ t5 w5 e5
          exact ⟨S5, M5, δ5, g5, p5, t14.trans t5, w5, e5⟩
        · rintro δ5 S5 M5 σ5 H5 ⟨g5, p5⟩ t5 w5 e5
          exact ⟨S5, M5, δ5, g5, p5, t14.trans t5, w5, e5⟩
    · have ei : i = xs.length := by omega
      subst ei
      rw [List.drop_length] at p2
      exact .inl ⟨wk.stop S2 M2 H2 t2 w2 g2, l.nx _ S2 M2 _ H2 p2 (t1.trans t2) w2 e2⟩⟩
end
def dCallX (sp : DCX) (q : QX) (t : DA) : DE := fun δ M P => t δ M fun ds M1 => sp ds M1 P q
def dCallNX (n m : Nat) (sp : DCX) (g : List D → List D → List D) (q : QX) (t tk : DA) : DE := fun δ M P => t δ M fun ds M1 => tk δ M1 fun es M2 => ds.length = n ∧ es.length = m ∧ sp (g ds es) M2 P q
/-- .. made in C(..), where it fails nothing of it is left -/
def rMakeFX (C : Addr) (sp : DCX) (q : QX) : DC := fun ds M P => ∀ x, M x = none → sp (.ptr x :: ds) (mset M x (.ins C [])) (fun d M2 => d = .non ∧ ∃ fs, M2 x = some (.ins C fs) ∧ P (.ins C (fs.map (·.1)) (fs.map (·.2))) (mdel M2 x)) fun C' fs M2 => ∃ M0, Mle M0 M2 ∧ q C' fs M0
def liftXF (sp : DCX) : Sp := liftX sp
section
variable {E : XK} {t tk : TA} {dt dk : DA} {sp : DCX} {C : Addr}
instance pux_call [A : PuA t dt] : PuXE E (tCall (liftX sp) [] E t) (fun q => dCallX sp q dt) := ⟨fun S M σ δ H P q Q w e h k x =>
  A.run S M σ δ H _ _ w e h fun ds S1 M1 vs H1 p1 t1 w1 h1 => by
    rw [List.append_nil]
    exact ⟨S1, M1, ds, P, q, w1, h1, p1, k.go t1, x.go t1⟩⟩
instance pux_callN {n l : Nat} {gV : List V → List V → List V} {gD : List D → List D → List D} [A : PuA t dt] [B : PuA tk dk] [G : RelG gV gD] : PuXE E (tCallN n l (liftX sp) gV E t tk) (fun q => dCallNX n l sp gD q dt dk) := ⟨fun S M σ δ H P q Q w e h k x =>
  A.run S M σ δ H _ _ w e h fun ds S1 M1 vs H1 p1 t1 w1 h1 =>
    B.run S1 M1 σ δ H1 _ _ w1 (e.step w t1) p1 fun es S2 M2 zs H2 p2 t2 w2 h2 => by
      obtain ⟨l1, l2, p2⟩ := p2
      exact ⟨by rw [h1.length]; exact l1, by rw [h2.length]; exact l2, S2, M2, _, P, q, w2, G.run S2 H2 _ _ _ _ (dtA_step w1 t2 _ h1) h2, p2, k.go (t1.trans t2), x.go (t1.trans t2)⟩⟩
theorem AtX.left {S S1 : Addr → Prop} {M M1 : Mem} {H H1 : Hp} {q : QX} (x : AtX S M H q E) (t : Step S M H S1 M1 H1) : AtX S1 M1 H1 (fun C fs M2 => ∃ M0, Mle M0 M2 ∧ q C fs M0) E := fun C fs S2 M2 d H2 p t2 w2 xf => by
  obtain ⟨M0, l, p⟩ := p
  refine x C fs S2 M0 d H2 p ⟨fun b o e1 e2 => ?_⟩ (w2.drop l) xf
  obtain ⟨h1, h2, h3⟩ := (t.trans t2).keep b o e1 e2
  refine ⟨h1, ?_, h3⟩
  cases e : M0 b with
  | none => rfl
  | some mo => rw [l b mo e] at h2; cases h2
theorem makeFX_go {S : Addr → Prop} {M : Mem} {H : Hp} {P : QD} {q : QX} {Q : VK} {vs : List V} {ds : List D} {x dx : Addr} (w : Wo S M H) (h : DtA S H vs ds) (p : rMakeFX C sp q ds M P) (k : AtE S M H P Q) (xx : AtX S M H q E) (nx : H x = none) (nd : H dx = none) (ne : dx ≠ x) :
    liftXF sp (.ref x :: vs) (upd (upd H dx (.own x)) x (.ins C dx [])) (fun v H2 => v = .non ∧ Q (.ref x) H2) E := by
  obtain ⟨w1, t1⟩ := new_ins (C := C) w nx nd ne
  refine ⟨_, _, _, _, _, w1, .cons (.ptr x) (dtA_step w t1 _ h), p x (w.fresh nx), fun d S2 M2 v H2 q t2 w2 hv => ?_, xx.left t1⟩
  obtain ⟨rfl, fs, hm, q⟩ := q
  cases hv
  obtain ⟨sx, dx', gs, ha, hn, hs⟩ := w2.mem x _ hm
  have t3 := (t1.trans t2).trans (Step.freeze (S := S2) (H := H2) hm)
  exact ⟨rfl, k _ _ _ _ H2 q t3 w2.freeze (.ins (fun z => z.2 rfl) ha hn (dtA_freeze hs))⟩
instance pux_makeF [A : PuA t dt] : PuXE E (tMake C (liftXF sp) [] E t) (fun q => dCB (rMakeFX C sp q) dt) := ⟨fun S M σ δ H P q Q w e h k xx =>
  A.run S M σ δ H _ _ w e h fun ds S1 M1 vs H1 p1 t1 w1 h1 x dx nx nd ne => by
    rw [List.append_nil]
    exact makeFX_go w1 h1 p1 (k.go t1) (xx.go t1) nx nd ne⟩
instance pux_makeF3210 {n : Nat} [B : PuA tk dk] : PuXE E (tMakeK C 0 n (liftXF sp) (fun us ws => us ++ pk3_2_1_0 ws) E tNil tk) (fun q => dMakeK (rMakeFX C sp q) d3210 n dk) := ⟨fun S M σ δ H P q Q w e h k xx =>
  B.run S M σ δ H _ _ w e h fun es S2 M2 zs H2 p2 t2 w2 h2 => ⟨rfl, by rw [h2.length]; exact p2.1, fun x dx nx nd ne => makeFX_go w2 (pk3_2_1_0_dt h2) p2.2 (k.go t2) (xx.go t2) nx nd ne⟩⟩
instance pux_makeF10 {n : Nat} [B : PuA tk dk] : PuXE E (tMakeK C 0 n (liftXF sp) (fun us ws => us ++ pk1_0 ws) E tNil tk) (fun q => dMakeK (rMakeFX C sp q) d10 n dk) := ⟨fun S M σ δ H P q Q w e h k xx =>
  B.run S M σ δ H _ _ w e h fun es S2 M2 zs H2 p2 t2 w2 h2 => ⟨rfl, by rw [h2.length]; exact p2.1, fun x dx nx nd ne => makeFX_go w2 (pk1_0_dt h2) p2.2 (k.go t2) (xx.go t2) nx nd ne⟩⟩
end
section
variable {X : Cx} {k : Nat} {f C : Addr} {fd : FuncData} {ps ks : List Str} {sp : Sp} {x : Str} {p pos : Pos} {e : Expr} {es : List Expr} {t tk : TA} {kws : List Keyword} {E : XK}
theorem passX (tk : Takes X fun cls d _ H => E cls d H) : Passes (L2.CX X.prog X.w) X E := passes_call tk fun _ _ _ _ h => h
end
/-- the own __init__ of an exception with one field -/
def spExI (C : Addr) (f : Str) : Sp := fun vs H Q _ => ∃ (a : Addr) (y : V), vs = [.ref a, y] ∧ H a = some (exo a C none) ∧ ∀ dx, H dx = none → dx ≠ a → Q .non (upd (upd H dx (exd dx [(f, y)])) a (exo a C (some dx)))
/-- raise C(e) -/
def tRaiseX (E : XK) (C : Addr) (f : Str) (te : TE) : TS := fun _ σ H => tMkO C (spExI C f) [] (tCons te tNil) σ H E
theorem upd_back {H : Hp} {a d : Addr} {o1 o2 o3 o4 : HO} (n : H a = none) (nd : d ≠ a) : upd (del (upd (upd (upd H a o1) d o2) a o3) a) d o4 = upd H d o4 := by
  funext b
  by_cases h1 : b = d
  · rw [h1, upd_same, upd_same]
  · rw [upd_ne h1, upd_ne h1]
    by_cases h2 : b = a
    · rw [h2, del_same, n]
    · rw [del_ne h2, upd_ne h2, upd_ne h1, upd_ne h2]
section
variable {X : Cx} {E : XK} {C fI : Addr} {k : Nat} {fd : FuncData} {ps : List Str} {f x : Str} {e : Expr} {te : TE} {p pos pos' : Pos}
theorem ps_raiseX (T : OexC X.K C) (iC : PySem.W.findIn X.K (.ref C) "__init__" = some (some (.ref fI))) (tI : PySem.W.typeIn X.K (.ref fI) = some (.type "function"))
    (F : FnOk X.prog X.w X.K X.mg X.base L2.CX0 k fI fd ps (spExI C f)) (hr : Room (k + 1) X.A) (hb : Binds X.K fd ps []) (hg : Gl X x) (hm : X.mg x = some (.ref C)) (hc : X.calm = true) (tk : Takes X fun cls d _ H => E cls d H) (he : PE X e te)
    (hdb : (x == ("__debug__" : Str)) = false := by decide) (hs : starEach (e :: []) X.env = (false, eval e X.env) :: starEach [] X.env := by rfl) (hpl : (backTo pos (starEach [] X.env)).any (·.1) = false := by rfl) :
    PS X (.Raise (some (.Call (.Name x p) [e] [] pos)) none pos') (tRaiseX E C f te) :=
  ps_raise hc tk (pmk_oex (dvs := []) (ds := []) T iC tI F hr hb .nil (fun _ _ _ _ _ _ _ h => h.elim) hg hm (pa_cons he pa_nil hs) (p := p) (pos := pos) hdb hs hpl)
end
def sRaiseX (C : Addr) (f : Str) (q : QX) (a : DE) : DS := fun _ _ _ _ δ M => a δ M fun y M1 => q C [(f, y)] M1
instance pux_raise {E : XK} {C : Addr} {f : Str} {te : TE} {da : DE} [A : PuE te da] : PuXS E (tRaiseX E C f te) (fun q => sRaiseX C f q da) := ⟨fun S M σ δ H nx rt bk ct D q w e h l x =>
  A.run S M σ δ H _ _ w e h fun d S1 M1 v H1 p1 t1 w1 h1 => by
    refine ⟨by simp, fun a na => ⟨a, v, rfl, upd_same, fun dx nd ne => ?_⟩⟩
    have nd1 : H1 dx = none := by rw [upd_ne ne] at nd; exact nd
    refine ⟨rfl, dx, [(f, v)], upd_same, by rw [upd_ne ne, upd_same], nd1, ?_⟩
    rw [upd_back na ne]
    exact x C [(f, d)] S1 M1 (some dx) _ p1 (t1.trans (.new nd1)) (w1.new nd1) (.inr ⟨dx, _, rfl, w1.ns nd1, upd_same, rfl, .cons (h1.sm (Same.new nd1)) .nil⟩)⟩
section
variable {P : Program} {w : World} {K : PySem.W.Frag} {mg : Str → Option Value} {base : Heap} {x qual : Str} {st : Stmt} {f : Addr} {fd : FuncData} {N ps : List Str} {k : Nat} {sp : DCX}
theorem liftXLen (len : ∀ ds M P q, sp ds M P q → ds.length = ps.length) : ∀ vs H Q E, liftX sp vs H Q E → vs.length = ps.length := fun vs H Q E ⟨S, M, ds, P, q, _, h, p, _⟩ => by rw [h.length]; exact len ds M P q p
theorem fnX (F : L2.Fun K x qual st f fd) (S : FnScope N ps (L2.defScope st)) (len : ∀ ds M P q, sp ds M P q → ds.length = ps.length)
    (hb : ∀ (cdv : Value) (A : Around) (outer : List Env) (s : Shared) (H : Hp) (E : XK), Room k (A.deeper (envOfC qual (L2.defScope st) s.heap.objs.size f cdv)) →
      Takes (cxOf (L2.CX P w) P w K mg base N qual (L2.defScope st) f cdv A outer s H E) (fun cls d _ H => E cls d H) →
      PassesOwn (model P w) (cxOf (L2.CX P w) P w K mg base N qual (L2.defScope st) f cdv A outer s H E).A (cxOf (L2.CX P w) P w K mg base N qual (L2.defScope st) f cdv A outer s H E).env (cxOf (L2.CX P w) P w K mg base N qual (L2.defScope st) f cdv A outer s H E).xe →
      ∃ t, PSs (cxOf (L2.CX P w) P w K mg base N qual (L2.defScope st) f cdv A outer s H E) (L2.defBody st) t ∧ ∃ dt, PuXS E t dt ∧ ∀ ds M P q, sp ds M P q → dt q (fun _ M' => P .non M') P (fun _ _ => False) (fun _ _ => False) (startD N ds) M) :
    FnOk P w K mg base (L2.CX P w) (k + 1) f fd ps (liftX sp) :=
  F.okX S (liftXLen len) fun cdv A outer s H vs Q E hr h => by
    obtain ⟨t, ht, dt, AA, go⟩ := hb cdv A outer s H E hr (takes_of rfl rfl rfl rfl) PassesOwn.leaving
    obtain ⟨S, M, ds, P, q, w, h, p, k, kx⟩ := h
    exact ⟨t, ht, AA.run S M _ _ H _ _ _ _ _ q w (en_start N h) (go ds M P q p) ⟨fun δ' S' M' σ' H' q t w e => k _ S' M' _ H' q t w .non, k, fun _ _ _ _ _ q => q.elim, fun _ _ _ _ _ q => q.elim⟩ kx⟩
end
section
variable {δ : Dl} {M : Mem} {P : QD} {a : DE} {t tk : DA} {nx bk ct : QS} {rt : QD} {q : QX}
theorem x_callX {sp : DCX} (h : t δ M fun ds M1 => sp ds M1 P q) : dCallX sp q t δ M P := h
theorem x_callNX {n m : Nat} {sp : DCX} {f : List D → List D → List D} (h : t δ M fun ds M1 => tk δ M1 fun es M2 => ds.length = n ∧ es.length = m ∧ sp (f ds es) M2 P q) : dCallNX n m sp f q t tk δ M P := h
theorem x_raiseX {C : Addr} {f : Str} (h : a δ M fun y M1 => q C [(f, y)] M1) : sRaiseX C f q a nx rt bk ct δ M := h
end
end V
namespace V
open PySem PySem.Spec PyProof.Rows L2 U StX
/-- the rows of an _law_ended: class, word, attribute -/
abbrev ERow := Addr × Str × Str
end V
namespace V
open PySem PySem.Spec PyProof.Rows L2 U StX
/-- what is told of an error: the row of its class -/
def endX (rows : List ERow) (Q : VK) (cls : Value) (d : Option Addr) (H : Hp) : Prop := ∃ (C dd : Addr) (name f : Str) (fs : List (Str × V)) (v : V), (C, name, f) ∈ rows ∧ cls = .ref C ∧ d = some dd ∧ H dd = some (.xd fs) ∧ fs.lookup f = some v ∧ ∀ p, H p = none → Q (.ref p) (upd H p (.lst [.str name, v, .bl true]))
def givenX (Q : VK) (v : V) (H : Hp) : Prop := ∀ p, H p = none → Q (.ref p) (upd H p (.lst [.str (Str.ofString "given"), v]))
def TTend (rows : List ERow) : (XK → Hp → VK → Prop) → Hp → VK → Prop := fun tl H Q => ∀ K2 : VK, (∀ v H', givenX Q v H' → K2 v H') → tl (endX rows Q) H K2
end V
namespace V
open PySem PySem.Spec PyProof.Rows L2 U StX
/-- what the making of a lambda does to the heap: its code object is found, or a new one stands in the table at P -/
def LamTo (H : Hp) (P : Addr) (q : Str) (H1 : Hp) : Prop := H1 = H ∨ ∃ (ps : Array Value) (pos : Pos) (c : Addr), H P = some (.tbl ps) ∧ H c = none ∧ H1 = upd (upd H P (.tbl (ps ++ #[rawInt pos.line, rawInt pos.col, .ref c]))) c (LamX.CodeO c q)
section
variable {X : Cx} {pins : List (Addr × Obj)} {σ : L2.St} {H : Hp} {s : Shared}
theorem lam_make3 {c P : Addr} {params : Arguments} {body : Expr} {scope : Scope} {pos : Pos} {E : Value → Shared → Prop} {Q : Value → Shared → Prop} (I : Inv X pins σ H s) (TB : LamX.TabB X.base X.mg c P) (hcode : X.env.code = .ref c)
    (hT : LamX.TabS H P (X.env.qual ++ "<lambda>")) (hdef : defaultsOf params X.env = ([], [])) (hfree : ∀ y ∈ scope.names, y.2 = .free → ∃ c, X.env.cells.lookup y.1 = some c)
    (h : ∀ (f c' : Addr) (pm ctv : Value) (H1 : Hp) (s' : Shared), Inv X pins σ H1 s' → LamTo H P (X.env.qual ++ "<lambda>") H1 →
      s'.heap.get? f = some (PySem.W.kla_obj "<lambda>" (X.env.qual ++ "<lambda>") params body scope (cloFrom X.env.cells scope.names []) pm c' ctv) → H1 f = none → f ∉ frs X.stack → H1 c' = some (LamX.CodeO c' (X.env.qual ++ "<lambda>")) → Q (.ref f) s') :
    wpAny (model X.prog X.w) X.A (eval (.Lambda params body scope pos) X.env) Q E s := by
  obtain ⟨ps, hP, ht, ha⟩ := hT
  refine PySem.W.kla_eval hdef ?_
  have bP : s.heap.BuiltinsAt X.mg P := TB.bm.keeps I.bk
  have hP' : s.heap.get? P = some { cls := .none, data := .fields ps } := I.hok P _ hP
  have nofr : ∀ f, s.heap.objs.size ≤ f → f ∉ frs X.stack := fun f hf z => by
    rcases List.mem_cons.mp (I.stkSub _ z) with e | e
    · have h1 := I.lt
      rw [← e] at h1
      exact Nat.lt_irrefl _ (Nat.lt_of_lt_of_le h1 hf)
    · exact I.nofs hf e
  cases hc : codeAmong pos ps.toList with
  | none =>
    refine PySem.W.kla_makeFunction (mg := X.mg) (c := c) (P := P) (ps := ps) (closure_ok hfree) I.ok.glob (I.mod.glob.keeps I.bk) hcode (TB.code.keeps I.bk) hP' ht hc TB.gP bP fun c' ctv h' tk hx hge hlt hrec htb => ?_
    obtain ⟨c2, oc, vs, t, e2, hoc, hd, hv⟩ := hrec
    cases e2
    have hsz : s.heap.objs.size ≤ h'.objs.size := Nat.le_trans hge (Nat.le_of_lt hlt)
    have nC : H c' = none := I.hok.fresh hge
    have I1 := LamX.inv_table (t' := tk) (more := #[rawInt pos.line, rawInt pos.col, .ref c']) (h' := h'.push (PySem.W.kla_obj "<lambda>" (X.env.qual ++ "<lambda>") params body scope (cloFrom X.env.cells scope.names []) ((X.mg "__name__").getD .none) c' ctv)) I hP
      (fun b o hb e => Heap.get?_push_of_some _ (hx b o hb e)) (Heap.get?_push_of_some _ htb) hge ⟨oc, vs, t, Heap.get?_push_of_some _ hoc, hd, hv⟩
    refine h h'.objs.size c' ((X.mg "__name__").getD .none) ctv _ _ I1 (.inr ⟨ps, pos, c', hP, nC, rfl⟩) (Heap.get?_push_size _ rfl) ?_ (nofr _ hsz) upd_same
    have n1 : h'.objs.size ≠ c' := Nat.ne_of_gt hlt
    have n2 : h'.objs.size ≠ P := Nat.ne_of_gt (Nat.lt_of_lt_of_le (Heap.lt_size hP') hsz)
    rw [upd_ne n1, upd_ne n2]
    exact I.hok.fresh hsz
  | some cv =>
    obtain ⟨c', e, hco⟩ := ha pos cv hc
    subst e
    refine PySem.W.kla_makeFunctionHit (mg := X.mg) (c := c) (P := P) (ps := ps) (closure_ok hfree) I.ok.glob (I.mod.glob.keeps I.bk) hcode (TB.code.keeps I.bk) hP' ht hc bP fun ctv h' tk hx hsz => ?_
    have I1 : Inv X pins σ H { s with heap := h'.push (PySem.W.kla_obj "<lambda>" (X.env.qual ++ "<lambda>") params body scope (cloFrom X.env.cells scope.names []) ((X.mg "__name__").getD .none) c' ctv), toks := tk } := I.kept fun b o e => Heap.get?_push_of_some _ (hx b o e)
    exact h h'.objs.size c' ((X.mg "__name__").getD .none) ctv H _ I1 (.inl rfl) (Heap.get?_push_size _ rfl) (I.hok.fresh hsz) (nofr _ hsz) hco
end
def tLamP (P : Addr) (q : Str) (TT : (XK → Hp → VK → Prop) → Hp → VK → Prop) (t : XK → TE) : TE := fun σ H Q => LamX.TabS H P q ∧ ∀ H1, LamTo H P q H1 → TT (fun E H' Q' => t E σ H' Q') H1 Q
section
variable {X : Cx}
/-- x(lambda: body) -/
theorem pe_lamP {TT : (XK → Hp → VK → Prop) → Hp → VK → Prop} {x a : Str} {g c P : Addr} {k : Nat} {st : Stmt} {fdg : FuncData} {Ng : List Str}
    {params : Arguments} {body : Expr} {scope : Scope} {t : XK → TE} {p lpos pos : Pos} (hg : Gl X x) (hm : X.mg x = some (.ref g)) (F : L2.Fun X.K x x st g fdg) (hb : L2.Binds X.K fdg [a] []) (Sg : FnScope Ng [a] (L2.defScope st)) (hNg : Ng[0]? = some a) (hva : Vis (L2.defScope st) a)
    (hG : ∀ cdv : Value, LamX.GivesTo X Ng x (L2.defScope st) g cdv (L2.defBody st) a (X.env.qual ++ "<lambda>") TT)
    (TB : LamX.TabB X.base X.mg c P) (hcode : X.env.code = .ref c) (hr : Room (k + 2) X.A) (L : LamX.LamS X.env.scope scope) (hdef : defaultsOf params X.env = ([], []))
    (hbind : ∀ (q : Str) (cl : List (Str × Addr)) (pm cv ctv : Value), bindArgs (PySem.W.kla_fn "<lambda>" q params body scope cl pm cv ctv) ⟨[], []⟩ = pure [])
    (hbody : ∀ (A : Around) (outer : List Env) (s : Shared) (H : Hp) (E : XK) (f c' : Addr), Room k (A.deeper (LamX.lamEnv X scope s.heap.objs.size f c')) → PE (LamX.lamCx X A outer s H E scope f c') body (t E))
    (hdb : (x == ("__debug__" : Str)) = false := by decide) (hd : (a == ("__debug__" : Str)) = false := by decide) (hcd : (a == ("__classdict__" : Str)) = false := by decide) :
    PE X (.Call (.Name x p) [.Lambda params body scope lpos] [] pos) (tLamP P (X.env.qual ++ "<lambda>") TT t) := by
  obtain ⟨oc, od, kV, doc, pm, an, cdv, ct, osl, efd, lk, hcg⟩ := F.ex
  subst efd
  refine ⟨fun pins s σ H Q I h => ?_⟩
  obtain ⟨hT, h⟩ := h
  refine wpAny_Call_Name_kw (ld_glob I hg hm ?_ hdb)
  refine PySem.W.callWith_K (h₀ := X.base) I.ok.mod.kin F.kp ?_ (by rfl) (by rfl)
  show wpAny _ _ (spliced ((false, eval (.Lambda params body scope lpos) X.env) :: backTo pos (starEach [] X.env))) _ _ s
  refine Calls.spliced_cons (lam_make3 I TB hcode hT hdef (L.has I.ok) fun f c' pm' ctv H1 s' I1 lt hf hfn hfr hco => ?_)
  refine Calls.spliced_nil ⟨I1.kIn, ?_⟩
  have rc : codeAny (model X.prog X.w) X.A (.call (.ref g) ⟨[.ref f], []⟩) (CR C8.CX0 X.stack X.prog X.w H1 s' Q C8.E0) s' := by
    refine LamX.run_ofS (N := Ng) (ps := [a]) (us := [.ref f]) (vs := [.ref f]) lk hcg Sg hr I1.env0 (hb s' [.ref f] I1.kIn rfl) (.cons rfl .nil) rfl fun hr' => ?_
    obtain ⟨t', ht', hq'⟩ := hG cdv f c' s' H1 Q (fun E H' Q' => t E σ H' Q') (fun W pn xe E p1 p2 tk hW => LamX.pe_act (i := 0) I1 L hf hfn hfr (hbind _ _ _ _ _) tk hW hr' (fun A outer s H hr2 => hbody A outer s H E f c' hr2) hNg hva hd hcd) hco (h H1 lt)
    exact ⟨t', ht'.nox, hq'⟩
  refine wpAny_call (codeAny_mono rc fun r s2 hq => ?_)
  cases r with
  | error e => exact (show False from hq).elim
  | ok fl =>
    cases fl with
    | ret u => exact I1.after hq
    | next => exact False.elim hq
    | brk => exact False.elim hq
    | cont => exact False.elim hq
end
theorem lam_to {S : Addr → Prop} {M : Mem} {H H1 : Hp} {P : Addr} {q : Str} (w : Wo S M H) (hm : M P = some (.tab q)) (l : LamTo H P q H1) : Wo S M H1 ∧ Step S M H S M H1 := by
  rcases l with rfl | ⟨ps, pos, c, hP, nC, rfl⟩
  · exact ⟨w, .refl⟩
  · have sP := (w.mem P _ hm).1
    obtain ⟨ps', hP', ht, ha⟩ := (w.mem P _ hm).2
    rw [hP] at hP'
    cases hP'
    have nPc : P ≠ c := fun z => by rw [z, nC] at hP; cases hP
    have e1 : upd (upd H P (.tbl (ps ++ #[rawInt pos.line, rawInt pos.col, .ref c]))) c (LamX.CodeO c q) = upd (upd H c (LamX.CodeO c q)) P (.tbl (ps ++ #[rawInt pos.line, rawInt pos.col, .ref c])) := by
      funext b
      by_cases h1 : b = P
      · rw [h1, upd_ne nPc, upd_same, upd_same]
      · by_cases h2 : b = c
        · rw [h2, upd_same, upd_ne (Ne.symm nPc), upd_same]
        · rw [upd_ne h2, upd_ne h1, upd_ne h1, upd_ne h2]
    have e2 : mset M P (.tab q) = M := by
      funext b
      by_cases h1 : b = P
      · rw [h1, mset_same, hm]
      · rw [mset_ne h1]
    have w1 := w.new (o := LamX.CodeO c q) nC
    have eL : (ps ++ #[rawInt pos.line, rawInt pos.col, .ref c]).toList = ps.toList ++ [rawInt pos.line, rawInt pos.col, .ref c] := by simp
    have hk : Held S (upd (upd H c (LamX.CodeO c q)) P (.tbl (ps ++ #[rawInt pos.line, rawInt pos.col, .ref c]))) P (.tab q) := by
      refine ⟨_, upd_same, by rw [eL]; exact PySem.TriplesOk_snoc _ _ _ _ ht, fun p' cv hcv => ?_⟩
      rw [eL] at hcv
      rcases LamX.among_app _ ht hcv with z | z
      · obtain ⟨c0, a1, a2, a3⟩ := ha p' cv z
        have n0 : c0 ≠ P := fun y => by
          rw [y, hP] at a2
          exact LamX.codeO_ne ps (Option.some.inj a2).symm
        exact ⟨c0, a1, by rw [upd_ne n0]; exact Same.new nC _ _ a2, a3⟩
      · exact ⟨c, z, by rw [upd_ne (Ne.symm nPc), upd_same], w.ns nC⟩
    have w2 := w1.change hm hk
    have t2 := Step.change (S := S) (H := upd H c (LamX.CodeO c q)) (o := .tbl (ps ++ #[rawInt pos.line, rawInt pos.col, .ref c])) (mo' := .tab q) hm
    rw [e2] at w2 t2
    rw [e1]
    exact ⟨w2, (Step.new nC).trans t2⟩
/-- what is told of an error, over data -/
def endQ (rows : List ERow) (R : QD) : QX := fun C fs M => ∃ (name f : Str) (x : D), (C, name, f) ∈ rows ∧ fs.lookup f = some x ∧ R (.lst [.str name, x, .bl true]) M
def dLamE (P : Addr) (q : Str) (rows : List ERow) (dt : QX → DE) : DE := fun δ M R => M P = some (.tab q) ∧ dt (endQ rows R) δ M fun d M' => R (.lst [.str (Str.ofString "given"), d]) M'
theorem lookup_dt {S : Addr → Prop} {H : Hp} {f : Str} {x : D} : ∀ {gs : List (Str × V)} {fs : List (Str × D)}, gs.map (·.1) = fs.map (·.1) → DtA S H (gs.map (·.2)) (fs.map (·.2)) → fs.lookup f = some x → ∃ v, gs.lookup f = some v ∧ Dt S H v x
  | [], [], _, _, h => by cases h
  | [], _ :: _, e, _, _ => by cases e
  | _ :: _, [], e, _, _ => by cases e
  | (a, v) :: gs, (b, y) :: fs, e, d, h => by
    simp only [List.map_cons, List.cons.injEq] at e
    obtain ⟨rfl, e⟩ := e
    cases d with
    | cons d1 d2 =>
      rw [List.lookup_cons] at h ⊢
      cases c : f == a with
      | true =>
        rw [c] at h
        cases h
        exact ⟨v, rfl, d1⟩
      | false =>
        rw [c] at h
        exact lookup_dt e d2 h
instance pu_lamE {P : Addr} {q : Str} {rows : List ERow} {t : XK → TE} {dt : QX → DE} [A : ∀ E, PuXE E (t E) dt] : PuE (tLamP P q (TTend rows) t) (dLamE P q rows dt) := ⟨fun S M σ δ H R Q w e h k => by
  obtain ⟨hm, h⟩ := h
  obtain ⟨ps, hP, ht, ha⟩ := (w.mem P _ hm).2
  refine ⟨⟨ps, hP, ht, fun pos cv hc => let ⟨c, a1, a2, _⟩ := ha pos cv hc; ⟨c, a1, a2⟩⟩, fun H1 l K2 hK => ?_⟩
  obtain ⟨w1, t1⟩ := lam_to w hm l
  have lst : ∀ {S2 : Addr → Prop} {M2 : Mem} {H2 : Hp} {vs : List V} {ds : List D}, Step S M H S2 M2 H2 → Wo S2 M2 H2 → DtA S2 H2 vs ds → R (.lst ds) M2 → ∀ p, H2 p = none → Q (.ref p) (upd H2 p (.lst vs)) := fun t2 w2 d r p np =>
    k _ _ _ _ _ r (t2.trans (.new np)) (w2.new np) (.lst (w2.ns np) upd_same (d.sm (Same.new np)))
  refine (A _).run S M σ δ H1 _ (endQ rows R) _ w1 (e.step w t1) h (fun d S2 M2 v H2 r t2 w2 hd => hK _ _ fun p np => lst (t1.trans t2) w2 (.cons (.str _) (.cons hd .nil)) r p np) (fun C fs S2 M2 d H2 r t2 w2 xf => ?_)
  obtain ⟨name, f, x, hr, hl, r⟩ := r
  rcases xf with ⟨_, rfl⟩ | ⟨dd, gs, rfl, nd, hx, e1, e2⟩
  · cases hl
  · obtain ⟨v, hv, hd⟩ := lookup_dt e1 e2 hl
    exact ⟨C, dd, name, f, gs, v, hr, rfl, rfl, hx, hv, fun p np => lst (t1.trans t2) w2 (.cons (.str _) (.cons hd (.cons (.bl true) .nil))) r p np⟩⟩
theorem x_lamE {P : Addr} {q : Str} {rows : List ERow} {dt : QX → DE} {δ : Dl} {M : Mem} {R : QD} (hm : M P = some (.tab q)) (h : dt (endQ rows R) δ M fun d M' => R (.lst [.str (Str.ofString "given"), d]) M') : dLamE P q rows dt δ M R := ⟨hm, h⟩
end V
namespace V
open PySem PySem.Spec PyProof.Rows L2 U StX
/-- an empty dict that does not change -/
def empD (a : Addr) : D := .opq a (.dK [])
def tDNewE : TE := tDNewK
def dDNewE : DE := fun δ M P => ∀ a, P (empD a) M
instance pu_dnewE : PuE tDNewE dDNewE := ⟨fun S M σ δ H P Q w e h k p hp => k _ S M _ _ (h p) (.new hp) (w.new hp) (.opq (w.ns hp) upd_same)⟩
theorem x_dnewE {δ : Dl} {M : Mem} {P : QD} (h : ∀ a, P (empD a) M) : dDNewE δ M P := h
mutual
/-- as Dp, with empty dicts -/
inductive Dq (K : PySem.W.Frag) (H : Hp) : V → PyData → Prop
  | non : Dq K H .non .none
  | bl (b : Bool) : Dq K H (.bl b) (.bool b)
  | int (i : Int) : Dq K H (.int i) (.int i)
  | str (x : Str) : Dq K H (.str x) (.str x)
  | lst {a : Addr} {xs : List V} {ds : List PyData} : SqL K H a xs → DqAll K H xs ds → Dq K H (.ref a) (.list ds)
  | tup {a : Addr} {xs : List V} {ds : List PyData} : SqT K H a xs → DqAll K H xs ds → Dq K H (.ref a) (.tuple ds)
  | emp {a : Addr} : H a = some (.dK []) → Dq K H (.ref a) (.dict [])
inductive DqAll (K : PySem.W.Frag) (H : Hp) : List V → List PyData → Prop
  | nil : DqAll K H [] []
  | cons {v : V} {vs : List V} {d : PyData} {ds : List PyData} : Dq K H v d → DqAll K H vs ds → DqAll K H (v :: vs) (d :: ds)
end
/-- the modules' dict is known -/
def SysK (H : Hp) : Prop := ∃ (o : Obj) (es : Array DictEntry) (ep : Nat), H sysModules = some (.frz o (.ext fun _ => True)) ∧ o.data = .dict es ep
section
variable {X : Cx} {pins : List (Addr × Obj)} {σ : L2.St} {H : Hp} {s : Shared}
theorem seq_ne {a : Addr} {o : Obj} {vs : Array Value} {n : Nat} (I : Inv X pins σ H s) (k : SysK H) (ho : s.heap.get? a = some o) (hd : o.data = .seq vs n) : a ≠ sysModules := fun z => by
  obtain ⟨o1, es, ep, h1, h2⟩ := k
  obtain ⟨e, _⟩ := I.hok _ _ h1
  rw [z, e] at ho
  cases ho
  rw [h2] at hd
  cases hd
mutual
theorem Dq.reads (I : Inv X pins σ H s) : ∀ (d : PyData) (v : V) (u : Value), Dq X.K H v d → RelV v u → ∃ as, Reads s.heap u d as ∧ (SysK H → sysModules ∉ as)
  | .none, _, _, h, r => by
    cases h
    cases r
    exact ⟨_, Reads.none, fun _ => by simp⟩
  | .bool b, _, _, h, r => by
    cases h
    cases r
    exact ⟨_, Reads.bool b, fun _ => by simp⟩
  | .int i, _, _, h, r => by
    cases h
    obtain ⟨t, rfl⟩ := r
    exact ⟨_, Reads.int i t, fun _ => by simp⟩
  | .str x, _, _, h, r => by
    cases h
    obtain ⟨t, rfl⟩ := r
    exact ⟨_, Reads.str x t, fun _ => by simp⟩
  | .list ds, _, _, h, r => by
    cases h with
    | lst hs ha =>
      cases r
      obtain ⟨its, rv, ⟨o, n, ho, hc, _, hd⟩, _⟩ := I.list hs
      obtain ⟨as, hr, hn⟩ := Dq.readsAll I ds _ its ha rv
      exact ⟨_, Reads.list ho hc hd hr, fun k z => (List.mem_cons.mp z).elim (fun e => seq_ne I k ho hd e.symm) (hn k)⟩
  | .tuple ds, _, _, h, r => by
    cases h with
    | tup hs ha =>
      cases r
      obtain ⟨its, rv, ⟨o, ho, hc, n, hd⟩, _⟩ := I.tuple hs
      obtain ⟨as, hr, hn⟩ := Dq.readsAll I ds _ its ha rv
      exact ⟨_, Reads.tuple ho hc hd hr, hn⟩
  | .dict kvs, _, _, h, r => by
    cases h with
    | emp he =>
      cases r
      obtain ⟨_, hne, vs, hk, hD⟩ := I.hok _ _ he
      cases hk
      obtain ⟨o, es, ep, ho, hx, hd, _, hes, _⟩ := hD
      have e0 : es.toList = [] := by
        generalize es.toList = l at hes
        cases hes
        rfl
      refine ⟨_, Reads.dict (kvs := []) (as := []) (bs := []) ho hx.1 hd (by rw [e0]; exact .nil) (by rw [e0]; exact .nil), fun k z => ?_⟩
      have z := List.mem_singleton.mp (by simpa using z)
      rw [← z] at hne
      simp at hne
theorem Dq.readsAll (I : Inv X pins σ H s) : ∀ (ds : List PyData) (vs : List V) (us : List Value), DqAll X.K H vs ds → Vals vs us → ∃ as, ReadsAll s.heap us ds as ∧ (SysK H → sysModules ∉ as)
  | [], _, _, h, r => by
    cases h
    cases r
    exact ⟨_, ReadsAll.nil, fun _ => by simp⟩
  | d :: ds, _, _, h, r => by
    cases h with
    | cons h1 h2 =>
      cases r with
      | cons r1 r2 =>
        obtain ⟨as, q1, n1⟩ := Dq.reads I d _ _ h1 r1
        obtain ⟨bs, q2, n2⟩ := Dq.readsAll I ds _ _ h2 r2
        exact ⟨_, ReadsAll.cons q1 q2, fun k z => (List.mem_append.mp z).elim (n1 k) (n2 k)⟩
end
end
def rReprQ (K : PySem.W.Frag) : List V → Hp → VK → Prop := fun xs H Q => ∃ (v : V) (p : PyData), xs = [v] ∧ Dq K H v p ∧ PyData.showable p = true ∧ SysK H ∧ PyData.depth p ≤ 40 ∧ (PyData.shown p).length ≤ sizeLine ∧ Q (.str (PyData.shown p)) H
theorem call_reprQ {X : Cx} {K : PySem.W.Frag} (hK : X.K = K) (hg : X.A.guards = some []) (hu : X.A.units + 64 < cLine) : CallR X (.builtin "repr") (rReprQ K) := by
  subst hK
  intro pins s σ H xs us Q I r h
  obtain ⟨v, p, rfl, hd, hs, hn, hdp, hz, q⟩ := h
  obtain ⟨u, rfl, ru⟩ := vals1 r
  have fin : ∀ (h' : Heap) (tu : Tok) (tk : Nat), (∀ b o, s.heap.get? b = some o → h'.get? b = some o) → EP X pins σ Q (.str (PyData.shown p) tu) { s with heap := h', toks := tk } :=
    fun h' tu tk hk => ⟨.str (PyData.shown p), H, I.kept hk, ⟨_, rfl⟩, q⟩
  obtain ⟨as, rd, na⟩ := Dq.reads I p v u hd ru
  cases hd with
  | non =>
    cases ru
    rw [PyData.shown_none] at fin
    exact P.repr_of_none (fin _ _ _ fun _ _ e => e)
  | bl b =>
    cases ru
    rw [PyData.shown_bool] at fin
    exact P.repr_of_bool (fin _ _ _ fun _ _ e => e)
  | int i =>
    obtain ⟨t, rfl⟩ := ru
    rw [PyData.shown_int] at fin
    have hi : i.natAbs.log2 < 1920 := by simpa [PyData.showable] using hs
    exact P.repr_of_int hi (fin _ _ _ fun _ _ e => e)
  | str y =>
    obtain ⟨t, rfl⟩ := ru
    rw [PyData.shown_str] at fin hz
    exact P.repr_of_str (fin _ _ _ fun _ _ e => e) hz
  | lst _ _ =>
    cases ru
    exact repr_of_reads' (h₀ := s.heap) rd hs (fun _ => na hn) hg (by omega) (fun _ _ e => e) (fun h' tu tk hk => fin h' tu tk hk) hz
  | tup _ _ =>
    cases ru
    exact repr_of_reads' (h₀ := s.heap) rd hs (fun _ => na hn) hg (by omega) (fun _ _ e => e) (fun h' tu tk hk => fin h' tu tk hk) hz
  | emp _ =>
    cases ru
    exact repr_of_reads' (h₀ := s.heap) rd hs (fun _ => na hn) hg (by omega) (fun _ _ e => e) (fun h' tu tk hk => fin h' tu tk hk) hz
mutual
/-- the data that can be shown, empty dicts among them -/
inductive IsQ : D → PyData → Prop
  | non : IsQ .non .none
  | bl (b : Bool) : IsQ (.bl b) (.bool b)
  | int (i : Int) : IsQ (.int i) (.int i)
  | str (x : Str) : IsQ (.str x) (.str x)
  | lst {ds : List D} {ps : List PyData} : IsQs ds ps → IsQ (.lst ds) (.list ps)
  | tup {ds : List D} {ps : List PyData} : IsQs ds ps → IsQ (.tup ds) (.tuple ps)
  | emp (a : Addr) : IsQ (empD a) (.dict [])
inductive IsQs : List D → List PyData → Prop
  | nil : IsQs [] []
  | cons {d : D} {ds : List D} {p : PyData} {ps : List PyData} : IsQ d p → IsQs ds ps → IsQs (d :: ds) (p :: ps)
end
mutual
theorem isQ_dq {K : PySem.W.Frag} {S : Addr → Prop} {H : Hp} : ∀ {d : D} {p : PyData} {v : V}, IsQ d p → Dt S H v d → Dq K H v p
  | _, _, _, .non, h => by cases h; exact .non
  | _, _, _, .bl b, h => by cases h; exact .bl b
  | _, _, _, .int b, h => by cases h; exact .int b
  | _, _, _, .str b, h => by cases h; exact .str b
  | _, _, _, .lst q, h => by
    cases h with
    | lst n ha hs => exact .lst (SqL.of ha) (isQs_dq q hs)
  | _, _, _, .tup q, h => by
    cases h with
    | tup n ha hs => exact .tup (SqT.of ha) (isQs_dq q hs)
  | _, _, _, .emp a, h => by
    cases h with
    | opq n ha => exact .emp ha
theorem isQs_dq {K : PySem.W.Frag} {S : Addr → Prop} {H : Hp} : ∀ {d : List D} {p : List PyData} {v : List V}, IsQs d p → DtA S H v d → DqAll K H v p
  | _, _, _, .nil, h => by cases h; exact .nil
  | _, _, _, .cons q qs, h => by
    cases h with
    | cons h1 h2 => exact .cons (isQ_dq q h1) (isQs_dq qs h2)
end
def rReprQ1 : DC := fun ds M P => ∃ d p, ds = [d] ∧ IsQ (vw M d) p ∧ M sysModules = some .sys ∧ PyData.showable p = true ∧ PyData.depth p ≤ 40 ∧ (PyData.shown p).length ≤ sizeLine ∧ P (.str (PyData.shown p)) M
instance cb_reprQ {K : PySem.W.Frag} : CbD (rReprQ K) rReprQ1 := ⟨fun S M H vs ds P Q w hv h k => by
  obtain ⟨d, p, rfl, e, hm, h1, h3, h4, q⟩ := h
  have hsys : SysK H := (w.mem _ _ hm).2
  match vs, hv with
  | [v], .cons h0 .nil =>
    refine ⟨v, p, rfl, ?_, h1, hsys, h3, h4, k _ S M _ H q .refl w (.str _)⟩
    cases d with
    | ptr a =>
      unfold vw at e
      cases hma : M a with
      | none => simp only [hma] at e; cases e
      | some mo =>
        cases mo with
        | lst ds =>
          simp only [hma] at e
          cases h0
          obtain ⟨_, vs, g1, g2⟩ := w.mem a _ hma
          cases e with
          | lst qq => exact .lst (SqL.of g1) (isQs_dq qq g2)
        | dic ds => simp only [hma] at e; cases e
        | dct ds => simp only [hma] at e; cases e
        | ins C ds => simp only [hma] at e; cases e
        | tab q => simp only [hma] at e; cases e
        | sys => simp only [hma] at e; cases e
        | xob C fs => simp only [hma] at e; cases e
    | _ => exact isQ_dq e h0⟩
structure PyQ (W k : Nat) (p : PyData) : Prop where
  lv : PyData.leavesShort 1000 p = true
  sh : PyData.showable p = true
  dep : PyData.depth p ≤ k
  wt : PyData.weight p ≤ W
structure PysQ (W k : Nat) (ps : List PyData) : Prop where
  lv : PyData.leavesShortAll 1000 ps = true
  sh : PyData.showableAll ps = true
  dep : PyData.depthAll ps ≤ k
  wt : PyData.weightAll ps ≤ W
def okQ (W k : Nat) (d : D) : Prop := ∃ p, IsQ d p ∧ PyQ W k p
def okQs (W k : Nat) (ds : List D) : Prop := ∃ ps, IsQs ds ps ∧ PysQ W k ps
theorem okQ.mono {W W' k k' : Nat} {d : D} : okQ W k d → W ≤ W' → k ≤ k' → okQ W' k' d := fun ⟨p, e, a⟩ h h2 => ⟨p, e, a.lv, a.sh, Nat.le_trans a.dep h2, Nat.le_trans a.wt h⟩
theorem okQs.nil (W k : Nat) : okQs W k [] := ⟨[], .nil, rfl, rfl, Nat.zero_le _, Nat.zero_le _⟩
theorem okQs.cons {W W' k : Nat} {d : D} {ds : List D} : okQ W k d → okQs W' k ds → okQs (W + 1 + W') k (d :: ds) := fun ⟨p, e, a⟩ ⟨ps, e2, b⟩ => by
  obtain ⟨a1, a2, a3, a4⟩ := a
  obtain ⟨b1, b2, b3, b4⟩ := b
  refine ⟨p :: ps, .cons e e2, ?_, ?_, ?_, ?_⟩
  · rw [PyData.leavesShortAll, a1, b1]; rfl
  · rw [PyData.showableAll, a2, b2]; rfl
  · rw [PyData.depthAll]; omega
  · rw [PyData.weightAll]; omega
theorem okQs.all {W k : Nat} : ∀ {ds : List D}, (∀ d ∈ ds, okQ W k d) → okQs (ds.length * (W + 1)) k ds
  | [], _ => okQs.nil _ _
  | d :: ds, h => by
    obtain ⟨ps, e, a⟩ := okQs.cons (h d List.mem_cons_self) (okQs.all fun x hx => h x (List.mem_cons_of_mem _ hx))
    have q : (ds.length + 1) * (W + 1) = W + 1 + ds.length * (W + 1) := by rw [Nat.add_mul, Nat.one_mul, Nat.add_comm]
    rw [List.length_cons, q]
    exact ⟨ps, e, a⟩
theorem okQs.list {W k : Nat} {ds : List D} : okQs W k ds → okQ W (k + 1) (.lst ds) := fun ⟨ps, e, a⟩ => ⟨.list ps, .lst e, by rw [PyData.leavesShort]; exact a.lv, by rw [PyData.showable]; exact a.sh, by rw [PyData.depth]; have := a.dep; omega, by rw [PyData.weight]; exact a.wt⟩
theorem okQs.tuple {W k : Nat} {ds : List D} : okQs W k ds → okQ W (k + 1) (.tup ds) := fun ⟨ps, e, a⟩ => ⟨.tuple ps, .tup e, by rw [PyData.leavesShort]; exact a.lv, by rw [PyData.showable]; exact a.sh, by rw [PyData.depth]; have := a.dep; omega, by rw [PyData.weight]; exact a.wt⟩
theorem okQ.emp (a : Addr) : okQ 0 1 (empD a) := ⟨.dict [], .emp a, by decide +kernel, by decide +kernel, by decide +kernel, by decide +kernel⟩
theorem okQ.bl (b : Bool) : okQ 0 0 (.bl b) := ⟨_, .bl b, rfl, rfl, by rw [PyData.depth]; exact Nat.le_refl _, by rw [PyData.weight]; exact Nat.le_refl _⟩
theorem okQ.non : okQ 0 0 .non := ⟨_, .non, rfl, rfl, by rw [PyData.depth]; exact Nat.le_refl _, by rw [PyData.weight]; exact Nat.le_refl _⟩
theorem okQ.int {i : Int} {b : Nat} (h : i.natAbs < 2 ^ b) (h0 : 0 < b := by decide) (hb : b ≤ 900 := by decide) : okQ b 0 (.int i) := by
  obtain ⟨h1, h2, h3, h4, h5, h6⟩ := PyBg.int h h0 hb
  exact ⟨_, .int i, PyData.leavesShort_of_canLay0 1000 _ h1 h2, h3, h5, h6⟩
theorem okQ.str {z : Str} {n : Nat} (h : ∀ c ∈ cd z, c < 0x110000) (hn : (cd z).length ≤ n) : okQ n 0 (.str z) := by
  obtain ⟨p, e, h1, h2, h3, h4, h5, h6⟩ := bgP.str h hn
  rw [D.py] at e
  cases e
  exact ⟨_, .str z, PyData.leavesShort_of_canLay0 1000 _ h1 h2, h3, h5, h6⟩
end V
namespace V
open PySem PySem.Spec PyProof.Rows L2 U StX
section
variable {P : Program} {w : World} {K : PySem.W.Frag} {mg : Str → Option Value} {base : Heap} {x qual : Str} {st : Stmt} {f c : Addr} {fd : FuncData} {N ps : List Str} {k : Nat} {sp : Sp} {sd : DC}
/-- as U.fnG_of, the code object known -/
theorem fnG_ofC (F : L2.Fun K x qual st f fd) (S : FnScope N ps (L2.defScope st)) (hc : fd.code = .ref c) (len : ∀ vs H Q E, sp vs H Q E → vs.length = ps.length)
    (hb : ∀ (A : Around) (outer : List Env) (s : Shared) (H : Hp) (vs : List V) (Q : VK) (E : XK), Room k (A.deeper (envOfC qual (L2.defScope st) s.heap.objs.size f (.ref c))) → A.guards = some [] → sp vs H Q E →
      ∃ t, PSs (cxOf L2.CX0 P w K mg base N qual (L2.defScope st) f (.ref c) A outer s H E).nox (L2.defBody st) t ∧ t { nx := fun _ H' => Q .non H', rt := Q } (L2.start N vs) H) :
    FnG P w K mg base (k + 1) f fd ps sp := by
  obtain ⟨oc, od, kV, doc, pm, an, cdv, ct, osl, rfl, lk, hcd⟩ := F.ex
  obtain rfl : cdv = .ref c := hc
  refine ⟨len, fun A outer s H args us vs Q E hr hg e0 hbd r hsp => ?_⟩
  have hl : vs.length = ps.length := len _ _ _ _ hsp
  have KX : K.In s.heap := e0.mod.kin.keeps (fun b o e => (e0.bs b o e).1)
  have lim : s.heap.NoLimit := e0.mod.nolimit.keeps (fun b o e => (e0.bs b o e).1)
  have kinds : ∀ y ∈ ps.zip us, (L2.defScope st).names.lookup y.1 = some .local ∨ ((L2.defScope st).names.lookup y.1 = some .cell ∧ ((cellsFrom (s.heap.objs.size + 1) (L2.defScope st).names []).lookup y.1).isSome = true) := by
    rintro ⟨n, v⟩ hy
    rcases S.par n (List.of_mem_zip hy).1 with q | q
    · exact Or.inl q
    · exact Or.inr ⟨q, PySem.W.cellsFrom_some _ _ _ (Or.inl q)⟩
  refine codeAny_call_function hr.depth (KX _ _ lk) rfl S.co S.gen rfl (PySem.W.codeRec_of KX hcd) (hbd _ _ _ _ ?_)
  refine wpAny_newFunctionEnv_cells S.kind kinds (fun env he s1 z => ?_)
  subst he
  refine ⟨lim.keeps z.toInCall.keep, codeAny_func ?_⟩
  obtain ⟨t, ht0, hq⟩ := hb A outer s H vs Q E (hr.deeper _) hg hsp
  have I := inv_start (CX := L2.CX0) (E := E) S hr.hd e0 hl r z
  refine wpAny_mono (ht0.nox.run [] s1 (L2.start N vs) H _ I hq) ?_ (fun e s' hs => hs)
  intro fl s' hs
  cases fl with
  | next =>
    obtain ⟨σ', H', J, q⟩ := hs
    exact ⟨V.non, H', J.os, J.bare, J.base, J.hok, rfl, q⟩
  | brk =>
    obtain ⟨_, _, _, q⟩ := hs
    exact q.elim
  | cont =>
    obtain ⟨_, _, _, q⟩ := hs
    exact q.elim
  | ret u =>
    obtain ⟨v, σ', H', J, rv, q⟩ := hs
    exact ⟨v, H', J.os, J.bare, J.base, J.hok, rv, q⟩
/-- a def that makes lambdas; what it makes of its own is left -/
theorem fnDXC (F : L2.Fun K x qual st f fd) (S : FnScope N ps (L2.defScope st)) (hc : fd.code = .ref c) (len : ∀ ds M P, sd ds M P → ds.length = ps.length)
    (hb : ∀ (A : Around) (outer : List Env) (s : Shared) (H : Hp) (E : XK), Room k (A.deeper (envOfC qual (L2.defScope st) s.heap.objs.size f (.ref c))) → A.guards = some [] →
      ∃ t, PSs (cxOf L2.CX0 P w K mg base N qual (L2.defScope st) f (.ref c) A outer s H E).nox (L2.defBody st) t ∧ ∃ dt, PuS t dt ∧ ∀ ds M R, sd ds M R → dt (fun _ M' => ∃ M0, Mle M0 M' ∧ R .non M0) (fun d M' => ∃ M0, Mle M0 M' ∧ R d M0) (fun _ _ => False) (fun _ _ => False) (startD N ds) M) :
    FnG P w K mg base (k + 1) f fd ps (lift sd) :=
  fnG_ofC F S hc (liftLen len) fun A outer s H vs Q E hr hg h => by
    obtain ⟨t, ht, dt, AA, go⟩ := hb A outer s H E hr hg
    refine ⟨t, ht, ?_⟩
    obtain ⟨S, M, ds, R, w, h, p, k⟩ := h
    refine AA.run S M _ _ H _ _ _ _ _ w (en_start N h) (go ds M R p) ⟨fun δ' S' M' σ' H' q t w e => ?_, ?_, fun _ _ _ _ _ q => q.elim, fun _ _ _ _ _ q => q.elim⟩
    · obtain ⟨M0, l, q⟩ := q
      exact k _ S' M0 _ H' q (t.less l) (w.drop l) .non
    · rintro d S' M' v H' ⟨M0, l, q⟩ t w' hv
      exact k d S' M0 v H' q (t.less l) (w'.drop l) hv
end
section
variable {X : Cx}
/-- pe_lamP, the body's reading told by itself -/
theorem pe_lamQ {TT : (XK → Hp → VK → Prop) → Hp → VK → Prop} {x a : Str} {g c P : Addr} {k : Nat} {st : Stmt} {fdg : FuncData} {Ng : List Str}
    {params : Arguments} {body : Expr} {scope : Scope} {t : XK → TE} {p lpos pos : Pos} (hg : Gl X x) (hm : X.mg x = some (.ref g)) (F : L2.Fun X.K x x st g fdg) (hb : L2.Binds X.K fdg [a] []) (Sg : FnScope Ng [a] (L2.defScope st)) (hNg : Ng[0]? = some a) (hva : Vis (L2.defScope st) a)
    (hG : ∀ cdv : Value, LamX.GivesTo X Ng x (L2.defScope st) g cdv (L2.defBody st) a (X.env.qual ++ "<lambda>") TT)
    (TB : LamX.TabB X.base X.mg c P) (hcode : X.env.code = .ref c) (hr : Room (k + 2) X.A) (L : LamX.LamS X.env.scope scope) (hdef : defaultsOf params X.env = ([], []))
    (hbind : ∀ (q : Str) (cl : List (Str × Addr)) (pm cv ctv : Value), bindArgs (PySem.W.kla_fn "<lambda>" q params body scope cl pm cv ctv) ⟨[], []⟩ = pure [])
    (hbody : ∀ (A : Around) (outer : List Env) (s : Shared) (H : Hp) (E : XK) (f c' : Addr), Room k (A.deeper (LamX.lamEnv X scope s.heap.objs.size f c')) → ∃ tb, PE (LamX.lamCx X A outer s H E scope f c') body tb ∧ tb = t E)
    (hdb : (x == ("__debug__" : Str)) = false := by decide) (hd : (a == ("__debug__" : Str)) = false := by decide) (hcd : (a == ("__classdict__" : Str)) = false := by decide) :
    PE X (.Call (.Name x p) [.Lambda params body scope lpos] [] pos) (tLamP P (X.env.qual ++ "<lambda>") TT t) :=
  pe_lamP hg hm F hb Sg hNg hva hG TB hcode hr L hdef hbind (fun A outer s H E f c' hr2 => by
    obtain ⟨tb, h, e⟩ := hbody A outer s H E f c' hr2
    rw [← e]
    exact h) hdb hd hcd
/-- what a lambda that the def x makes is called -/
abbrev lamN (x : Str) : Str := (x ++ ".<locals>.") ++ "<lambda>"
theorem takesL {A : Around} {outer : List Env} {s : Shared} {H : Hp} {E : XK} {scope : Scope} {f c' : Addr} : Takes (LamX.lamCx X A outer s H E scope f c') (fun cls d _ H => E cls d H) := takes_of rfl rfl rfl rfl
end
/-- the script -/
def isScr (K : PySem.W.Frag) (d : D) (ns : List Int) : Prop := (∃ a, d = .opq a (.lst (ns.map V.int))) ∨ (∃ a o, d = .opq a (.frz o (.lst (ns.map V.int)))) ∨ ∃ a, d = .ptr a ∧ ∀ H : Hp, SqL K H a (ns.map V.int)
theorem scr_get {K : PySem.W.Frag} {S : Addr → Prop} {H : Hp} {v : V} {d : D} {ns : List Int} (h : Dt S H v d) (e : isScr K d ns) : ∃ a, v = .ref a ∧ SqL K H a (ns.map V.int) := by
  rcases e with ⟨a, rfl⟩ | ⟨a, o, rfl⟩ | ⟨a, rfl, q⟩
  · cases h with
    | opq n ha => exact ⟨a, rfl, .inl (.inl ha)⟩
  · cases h with
    | opq n ha => exact ⟨a, rfl, .inl (.inr ⟨o, ha⟩)⟩
  · cases h
    exact ⟨a, rfl, q H⟩
theorem scr_of {K : PySem.W.Frag} {S : Addr → Prop} {H : Hp} {a : Addr} {ns : List Int} (h : SqL K H a (ns.map V.int)) (n : ¬ S a) : ∃ d, Dt S H (.ref a) d ∧ isScr K d ns := by
  rcases h with (h | ⟨o, h⟩) | h
  · exact ⟨_, .opq n h, .inl ⟨a, rfl⟩⟩
  · exact ⟨_, .opq n h, .inr (.inl ⟨a, o, rfl⟩)⟩
  · exact ⟨_, .ptr a, .inr (.inr ⟨a, rfl, fun H => .inr h⟩)⟩
def rLenUS (K : PySem.W.Frag) : List V → Hp → VK → Prop := rLenU K
def rLenS (K : PySem.W.Frag) : DC := fun ds M P => ∃ d ns, ds = [d] ∧ isScr K d ns ∧ P (.int (ns.length : Nat)) M
instance cb_lenS {K : PySem.W.Frag} : CbD (rLenUS K) (rLenS K) := ⟨fun S M H vs ds P Q w hv h k => by
  obtain ⟨d, ns, rfl, e, p⟩ := h
  match vs, hv with
  | [v], .cons h0 .nil =>
    obtain ⟨a, rfl, hs⟩ := scr_get h0 e
    refine ⟨_, .inl hs, ?_⟩
    rw [List.length_map]
    exact k _ S M _ H p .refl w (.int _)⟩
def spPotD (K : PySem.W.Frag) : DC := fun ds M P => ∃ (d : D) (ns : List Int) (i : Nat), ds = [d, .int i] ∧ isScr K d ns ∧ ns.length ≤ 63 ∧ i ≤ 63 ∧ ∀ p, P (potD p) M
/-- a new pot, told to be new -/
def spPotN (K : PySem.W.Frag) : Sp := fun vs H Q _ => ∃ (a : Addr) (ns : List Int) (i : Nat), vs = [.ref a, .int i] ∧ SqL K H a (ns.map V.int) ∧ ns.length ≤ 63 ∧ i ≤ 63 ∧ ∀ (p : Addr) (H' : Hp), Same H H' → H p = none → Pot H' p → Q (.ref p) H'
theorem fn_newPotN {P : Program} {w : World} {K : PySem.W.Frag} {mg : Str → Option Value} {base : Heap} {k : Nat} {f : Addr} {fd : FuncData} {ps : List Str} (F : FnOk P w K mg base L2.CX0 k f fd ps (spPot1 K)) (h2 : ps.length = 2) : FnOk P w K mg base L2.CX0 k f fd ps (spPotN K) := by
  refine fn_potOut F (fun vs H Q E h => ?_) (fun vs H Q E h => ?_)
  · obtain ⟨a, ns, i, rfl, _⟩ := h
    rw [h2]
    rfl
  · obtain ⟨a, ns, i, rfl, hS, hn, hi, q⟩ := h
    refine ⟨a, ns, i, rfl, hS, hn, hi, fun p x y z H' e hp hx => ⟨p, x, y, z, hx, q p _ (fun c o hc => ?_) hp upd_same⟩⟩
    rw [upd_ne (ne_of_none hc hp)]
    exact e c o hc
theorem pot_lift {K : PySem.W.Frag} : ∀ vs H Q E, lift (spPotD K) vs H Q E → spPotN K vs H Q E := by
  rintro vs H Q E ⟨S, M, ds, P, w, h, ⟨d, ns, i, rfl, e, hl, hi, q⟩, k⟩
  match vs, h with
  | [_, _], .cons h1 (.cons (.int _) .nil) =>
    obtain ⟨a, rfl, hs⟩ := scr_get h1 e
    exact ⟨a, ns, i, rfl, hs, hl, hi, fun p H' e hn hp => k _ S M _ H' (q p) (.same e) (w.same e) (.opq (w.ns hn) hp)⟩
/-- what the law keeps: tables with what their codes are called, the modules' dict -/
def M0 (Ts : List (Addr × Str)) : Mem := fun b => if b = sysModules then some .sys else (Ts.lookup b).map .tab
def spLawD (K : PySem.W.Frag) (Ts : List (Addr × Str)) : DC := fun ds M P => ∃ (d : D) (ns : List Int), ds = [d] ∧ isScr K d ns ∧ ns.length ≤ 63 ∧ M = M0 Ts ∧ P (.bl true) M
def spLawT (K : PySem.W.Frag) (cs : List (Addr × Addr)) : Sp := fun vs H Q _ => ∃ (a : Addr) (ns : List Int), vs = [.ref a] ∧ SqL K H a (ns.map V.int) ∧ ns.length ≤ 63 ∧ (∀ p ∈ cs, H p.2 = some (.tbl #[])) ∧ SysK H ∧ a ∉ cs.map (·.2) ∧ a ≠ sysModules ∧ ∀ H', Q (.bl true) H'
theorem look_memT {b : Addr} {q : Str} : ∀ {Ts : List (Addr × Str)}, Ts.lookup b = some q → (b, q) ∈ Ts
  | [], h => by cases h
  | (a, r) :: Ts, h => by
    rw [List.lookup_cons] at h
    cases c : b == a with
    | true =>
      rw [c] at h
      cases h
      rw [eq_of_beq c]
      exact List.mem_cons_self
    | false =>
      rw [c] at h
      exact List.mem_cons_of_mem _ (look_memT h)
theorem law_liftT {K : PySem.W.Frag} {cs : List (Addr × Addr)} {Ts : List (Addr × Str)} (hT : ∀ b ∈ Ts.map (·.1), b ∈ cs.map (·.2)) : ∀ vs H Q E, spLawT K cs vs H Q E → lift (spLawD K Ts) vs H Q E := by
  rintro vs H Q E ⟨a, ns, rfl, hs, hl, ht, hy, na, ns1, q⟩
  have tb : ∀ b ∈ Ts.map (·.1), H b = some (.tbl #[]) := fun b hb => by
    obtain ⟨p, hp, e⟩ := List.mem_map.mp (hT b hb)
    rw [← e]
    exact ht p hp
  obtain ⟨o, es, ep, ho, hd⟩ := hy
  have nS : ¬ (a = sysModules ∨ a ∈ Ts.map (·.1)) := fun z => z.elim ns1 fun z => na (hT a z)
  obtain ⟨d, h1, h2⟩ := scr_of (S := fun b => b = sysModules ∨ b ∈ Ts.map (·.1)) hs nS
  refine ⟨fun b => b = sysModules ∨ b ∈ Ts.map (·.1), M0 Ts, [d], fun d _ => d = .bl true, ⟨fun b hb => ?_, fun b mo e => ?_⟩, .cons h1 .nil, ⟨d, ns, rfl, h2, hl, rfl, rfl⟩, fun d S' M' v H' e t w h => ?_⟩
  · rcases hb with rfl | hb
    · rw [ho]; exact fun z => nomatch z
    · rw [tb b hb]; exact fun z => nomatch z
  · unfold M0 at e
    split at e
    · rename_i c
      cases e
      rw [c]
      exact ⟨.inl rfl, o, es, ep, ho, hd⟩
    · obtain ⟨q', hq, rfl⟩ := Option.map_eq_some_iff.mp e
      have hm : b ∈ Ts.map (·.1) := List.mem_map.mpr ⟨_, look_memT hq, rfl⟩
      exact ⟨.inr hm, #[], tb b hm, True.intro, fun pos cv hc => by
        have z : codeAmong pos [] = some cv := hc
        simp [codeAmong] at z⟩
  · subst e
    cases h
    exact q H'
end V
namespace V
open PySem PySem.Spec PyProof.Rows L2 U StX
theorem lawGT {P : Program} {w : World} {K : PySem.W.Frag} {mg mb : Str → Option Value} {k : Nat} {fa a : Addr} {cs : List (Addr × Addr)} {fd : FuncData} {x : Str} {s₁ : Shared} {vs : List Value} {ns : List Int} {o1 : Obj} {es1 : Array DictEntry} {ep1 : Nat}
    (KX : K.In s₁.heap) (hns : s₁.heap.Ns mainGlobals mg) (hb : s₁.heap.Ns builtinsNs mb) (hbb : ∀ x : Str, x ≠ "__name__" → mb x = bootBuiltins x) (hlim : s₁.heap.NoLimit) (hg : s₁.gens = #[])
    (hT : ∀ p ∈ cs, s₁.heap.get? p.2 = some { cls := .none, data := .fields #[] }) (nT : ∀ p ∈ cs, K.lookup p.2 = none) (C : ∀ p ∈ cs, PySem.W.CodeHd s₁.heap p.1 p.2)
    (h1 : s₁.heap.get? sysModules = some o1) (hd1 : o1.data = .dict es1 ep1) (n1 : K.lookup sysModules = none)
    (hbm : ∃ (bm : Addr) (ob : Obj), mg "__builtins__" = some (.ref bm) ∧ bm ≠ builtinsNs ∧ s₁.heap.get? bm = some ob ∧ ob.cls = .type "module" ∧ ob.dict = some builtinsNs ∧ ob.data = .plain)
    (ha : s₁.heap.get? a = some { cls := .type "list", data := .seq vs.toArray }) (hi : IntsAre vs ns) (hl : ns.length ≤ 63) (hr : Room k callerA)
    (F : ∀ base : Heap, K.In base → base.Ns mainGlobals mg → (∀ p ∈ cs, LamX.TabB base mg p.1 p.2) → FnG P w K mg base k fa fd [x] (spLawT K cs)) (hbind : ∀ (s : Shared) (u : Value), BindsTo s fd ⟨[u], []⟩ [(x, u)]) :
    codeAny (model P w) callerA (.call (.ref fa) ⟨[.ref a], []⟩) (fun r s' => r = .ok (.ret (.bool true)) ∧ OldK s₁.heap s'.heap ∧ s'.os = s₁.os ∧ AllBare s'.gens) s₁ := by
  have rv := vals_ints hi
  have lenV := hi.length
  have hl2 : ns.length ≤ sizeLine := Nat.le_trans hl (by decide)
  have isT : ∀ b : Addr, b ∈ cs.map (·.2) → s₁.heap.get? b = some { cls := .none, data := .fields #[] } := fun b hb => by
    obtain ⟨p, hp, e⟩ := List.mem_map.mp hb
    rw [← e]
    exact hT p hp
  have aT : a ∉ cs.map (·.2) := fun z => by
    have q := isT a z
    rw [ha] at q
    have z' : Data.seq vs.toArray _ = Data.fields #[] := congrArg Obj.data (Option.some.inj q)
    cases z'
  have sT : sysModules ∉ cs.map (·.2) := fun z => by
    have q := isT _ z
    rw [h1] at q
    cases Option.some.inj q
    cases hd1
  have sa : a ≠ sysModules := fun z => by
    rw [z, h1] at ha
    cases Option.some.inj ha
    cases hd1
  have memT : ∀ p ∈ cs, p.2 ∈ cs.map (·.2) := fun p hp => List.mem_map.mpr ⟨p, hp, rfl⟩
  -- from an abstract heap in which nothing but the script, the tables and the modules' dict may be tracked
  have core : ∀ H : Hp, (∀ p ∈ cs, H p.2 = some (.tbl #[])) → H sysModules = some (.frz o1 (.ext fun _ => True)) → (∀ b, H b = none ∨ b ∈ cs.map (·.2) ∨ ∃ o u, H b = some (.frz o u)) → SqL K H a (ns.map V.int) → HOk P w H s₁.heap → (∀ b, H b ≠ none → b = a ∨ b = sysModules ∨ b ∈ cs.map (·.2)) → (H a ≠ none → K.lookup a = none) →
      codeAny (model P w) callerA (.call (.ref fa) ⟨[.ref a], []⟩) (fun r s' => r = .ok (.ret (.bool true)) ∧ OldK s₁.heap s'.heap ∧ s'.os = s₁.os ∧ AllBare s'.gens) s₁ := by
    intro H hH h1H hO hS hok hA hK
    have base_of : ∀ {b : Addr} {o : Obj}, s₁.heap.get? b = some o → H b = none → (hidT s₁.heap H).get? b = some o := fun e n => hidT_get e n
    have noD : ∀ {b : Addr} {o : Obj}, s₁.heap.get? b = some o → b ≠ sysModules → (∀ vs n, o.data ≠ .seq vs n) → o.data ≠ .fields #[] → H b = none := fun {b o} e hs h1 h2 => by
      cases q : H b with
      | none => rfl
      | some u =>
        rcases hA b (by rw [q]; simp) with e' | e' | e'
        · rw [e', ha] at e
          cases e
          exact (h1 _ _ rfl).elim
        · exact (hs e').elim
        · rw [isT b e'] at e
          cases e
          exact (h2 rfl).elim
    have noA : ∀ {b : Addr} {o : Obj} {es : Array DictEntry} {ep : Nat}, s₁.heap.get? b = some o → b ≠ sysModules → o.data = .dict es ep → H b = none := fun {b o es ep} e hs d => by
      refine noD e hs (fun vs n z => ?_) fun z => ?_
      · rw [d] at z
        cases z
      · rw [d] at z
        cases z
    have nsK : ∀ {b : Addr} {m : Str → Option Value}, b ≠ sysModules → s₁.heap.Ns b m → (hidT s₁.heap H).Ns b m := fun {b m} hs ⟨o, es, ep, e, d, r⟩ => ⟨o, es, ep, base_of e (noA e hs d), d, r⟩
    have hKb : K.In (hidT s₁.heap H) := fun b o e => base_of (KX b o e) (by
      cases q : H b with
      | none => rfl
      | some u =>
        rcases hA b (by rw [q]; simp) with e' | e' | e'
        · rw [e'] at e q
          rw [hK (by rw [q]; simp)] at e
          cases e
        · rw [e', n1] at e
          cases e
        · obtain ⟨p, hp, ep⟩ := List.mem_map.mp e'
          rw [← ep, nT p hp] at e
          cases e)
    have hM : L2.Mod K mg (hidT s₁.heap H) := ⟨hKb, nsK (by decide) hns, ⟨mb, nsK (by decide) hb, hbb⟩, let ⟨mc, h1, h2⟩ := hlim; ⟨mc, nsK (by decide) h1, h2⟩⟩
    have TB : ∀ p ∈ cs, LamX.TabB (hidT s₁.heap H) mg p.1 p.2 := fun p hp => by
      have hTp := hT p hp
      refine ⟨?_, ?_, fun z => ?_⟩
      · obtain ⟨o, us, file, tf, flags, tg, inF, text, tt, e1, r1, r2, r3, r4, r5, r6, r7, r8, hne⟩ := C p hp
        refine ⟨o, us, file, tf, flags, tg, inF, text, tt, base_of e1 (noD e1 (fun z => ?_) (fun vs n z => ?_) fun z => ?_), r1, r2, r3, r4, r5, r6, r7, r8, hne⟩
        · rw [z, h1] at e1
          cases e1
          rw [r2] at hd1
          cases hd1
        · rw [r2] at z
          cases z
        · rw [r2] at z
          cases z
          simp at r3
      · obtain ⟨bm, ob, b1, b2, b3, b4, b5, b6⟩ := hbm
        have nG : bm ≠ mainGlobals := fun q => by
          obtain ⟨o, es, ep, e, hd, _⟩ := hns
          rw [q, e] at b3
          cases b3
          rw [hd] at b6
          cases b6
        have nP : bm ≠ p.2 := fun q => by
          rw [q, hTp] at b3
          cases b3
          cases b6
        refine ⟨bm, ob, b1, b2, nG, nP, base_of b3 (noD b3 (fun z => ?_) (fun vs n z => ?_) fun z => ?_), b4, b5, b6⟩
        · rw [z, h1] at b3
          cases b3
          rw [b6] at hd1
          cases hd1
        · rw [b6] at z
          cases z
        · rw [b6] at z
          cases z
      · obtain ⟨o, es, ep, e, hd, _⟩ := hns
        rw [z, hTp] at e
        cases e
        cases hd
    have e0 : Env0 P w K mg (hidT s₁.heap H) callerA [] s₁ H := ⟨rfl, hM, fun b o e => of_hidT e, Nat.le_of_eq (hidT_size _ _), trivial, fun b hb => absurd (show b ∈ ([] : List Addr) from hb) (by simp), hok, .of_eq hg⟩
    refine codeAny_mono ((F _ hKb (nsK (by decide) hns) TB).run callerA [] s₁ H ⟨[.ref a], []⟩ [.ref a] [.ref a] (fun v _ => v = .bl true) (fun _ _ _ => False) hr rfl e0 (hbind s₁ (.ref a)) (.cons rfl .nil) ⟨a, ns, rfl, hS, hl, hH, ⟨o1, es1, ep1, h1H, hd1⟩, aT, sa, fun _ => rfl⟩) fun r s' h => ?_
    cases r with
    | error e => exact False.elim h
    | ok fl =>
      cases fl with
      | next => exact False.elim h
      | brk => exact False.elim h
      | cont => exact False.elim h
      | ret u =>
        obtain ⟨v, H', os, bare, un, hok', r', q⟩ := h
        have q' : v = .bl true := q
        subst q'
        obtain rfl : u = Value.bool true := r'
        have key : ∀ b o, b ∉ cs.map (·.2) → s₁.heap.get? b = some o → s'.heap.get? b = some o := fun b o nb e => by
          cases q : H b with
          | none => exact un.keep b o e q (by intro z; exact absurd (show b ∈ ([] : List Addr) from z) (by simp)) (by simp)
          | some u =>
            rcases hO b with z | z | ⟨ob, xs, z⟩
            · rw [q] at z; cases z
            · exact absurd z nb
            · have z2 := un.frzs b ob _ z
              obtain ⟨e1, _⟩ := hok b _ z
              obtain ⟨e2, _⟩ := hok' b _ z2
              rw [e] at e1; cases e1
              exact e2
        have grown : ∀ p ∈ cs, ∃ more : Array Value, s'.heap.get? p.2 = some { cls := .none, data := .fields more } := fun p hp => by
          obtain ⟨more, z⟩ := un.tbls p.2 #[] (hH p hp)
          exact ⟨_, hok' p.2 _ z⟩
        refine ⟨rfl, ⟨fun b o e => ?_, fun b o e => ?_⟩, os, bare⟩
        · by_cases hb : b ∈ cs.map (·.2)
          · obtain ⟨p, hp, ep⟩ := List.mem_map.mp hb
            obtain ⟨more, hm⟩ := grown p hp
            rw [← ep] at e ⊢
            rw [hT p hp] at e
            cases e
            exact .inr (.inl ⟨((C p hp).tab (hT p hp)).isCodeTable, rfl, #[], more, rfl, by rw [Array.empty_append]; exact hm⟩)
          · exact .inl (key b o hb e)
        · by_cases hb : b ∈ cs.map (·.2)
          · obtain ⟨p, hp, ep⟩ := List.mem_map.mp hb
            obtain ⟨more, hm⟩ := grown p hp
            rw [← ep]
            exact ⟨_, hm⟩
          · exact ⟨o, key b o hb e⟩
  have okS : ∀ H : Hp, ObjOk P w H s₁.heap sysModules (.frz o1 (.ext fun _ => True)) := fun H => ⟨h1, trivial, ⟨_, h1⟩, fun _ _ _ _ => trivial⟩
  cases hk : K.lookup a with
  | some o =>
    have e := KX a o hk
    rw [ha] at e
    cases e
    refine core (fun b => if b ∈ cs.map (·.2) then some (.tbl #[]) else if b = sysModules then some (.frz o1 (.ext fun _ => True)) else none) (fun p hp => if_pos (memT p hp)) ((if_neg sT).trans (if_pos rfl)) (fun b => ?_) (.inr ⟨_, vs.toArray, _, hk, rfl, rfl, rfl, by rw [List.size_toArray, lenV]; exact hl2, by simpa using rv⟩) (fun b u z => ?_) (fun b z => ?_)
      fun z => absurd (show (if a ∈ cs.map (·.2) then some (HO.tbl #[]) else if a = sysModules then some (.frz o1 (.ext fun _ => True)) else none) = none from (if_neg aT).trans (if_neg sa)) z
    · by_cases hb : b ∈ cs.map (·.2)
      · exact .inr (.inl hb)
      · by_cases hs : b = sysModules
        · exact .inr (.inr ⟨_, _, (if_neg hb).trans (if_pos hs)⟩)
        · exact .inl ((if_neg hb).trans (if_neg hs))
    · by_cases hb : b ∈ cs.map (·.2)
      · have z' := (if_pos hb).symm.trans z
        cases z'
        exact isT b hb
      · have z' := (if_neg hb).symm.trans z
        by_cases hs : b = sysModules
        · have z2 := (if_pos hs).symm.trans z'
          cases z2
          rw [hs]
          exact okS _
        · have z2 := (if_neg hs).symm.trans z'
          cases z2
    · by_cases hb : b ∈ cs.map (·.2)
      · exact .inr (.inr hb)
      · by_cases hs : b = sysModules
        · exact .inr (.inl hs)
        · exact absurd ((if_neg hb).trans (if_neg hs)) z
  | none =>
    refine core (fun b => if b = a then some (.frz { cls := .type "list", data := .seq vs.toArray } (.lst (ns.map V.int))) else if b ∈ cs.map (·.2) then some (.tbl #[]) else if b = sysModules then some (.frz o1 (.ext fun _ => True)) else none)
      (fun p hp => (if_neg (show ¬ p.2 = a from fun z => aT (by rw [← z]; exact memT p hp))).trans (if_pos (memT p hp))) ((if_neg (Ne.symm sa)).trans ((if_neg sT).trans (if_pos rfl))) (fun b => ?_)
      (.inl (.inr ⟨{ cls := .type "list", data := .seq vs.toArray }, if_pos rfl⟩)) (fun b u z => ?_) (fun b z => ?_) fun _ => hk
    · by_cases hb : b = a
      · exact .inr (.inr ⟨_, _, if_pos hb⟩)
      · by_cases hb2 : b ∈ cs.map (·.2)
        · exact .inr (.inl hb2)
        · by_cases hs : b = sysModules
          · exact .inr (.inr ⟨_, _, (if_neg hb).trans ((if_neg hb2).trans (if_pos hs))⟩)
          · exact .inl ((if_neg hb).trans ((if_neg hb2).trans (if_neg hs)))
    · by_cases hb : b = a
      · have z' := (if_pos hb).symm.trans z
        cases z'
        rw [hb]
        exact ⟨ha, by rw [List.length_map]; exact hl2, vs, _, rv, ha⟩
      · have z1 := (if_neg hb).symm.trans z
        by_cases hb2 : b ∈ cs.map (·.2)
        · have z' := (if_pos hb2).symm.trans z1
          cases z'
          exact isT b hb2
        · have z' := (if_neg hb2).symm.trans z1
          by_cases hs : b = sysModules
          · have z2 := (if_pos hs).symm.trans z'
            cases z2
            rw [hs]
            exact okS _
          · have z2 := (if_neg hs).symm.trans z'
            cases z2
    · by_cases hb : b = a
      · exact .inl hb
      · by_cases hb2 : b ∈ cs.map (·.2)
        · exact .inr (.inr hb2)
        · by_cases hs : b = sysModules
          · exact .inr (.inl hs)
          · exact absurd ((if_neg hb).trans ((if_neg hb2).trans (if_neg hs))) z
theorem walkGT {l : PySem.W.OpenLaw} {k : Nat} {q : Program} {loose : List Str} {XP : (Str → Option Value) → Heap → Prop} {YP : World → Heap → Prop} {d : DefRec} {K : Params → PySem.W.Frag} {x : Str}
    (hn : l.most = some 63) (hdf : d.params.defaults = []) (hr : Room k callerA) (him : importsNone q = true) (hY : ∀ (w : World) (h : Heap), YP w h → (K w.params).In h)
    (F : ∀ (w : World) (mg : Str → Option Value) (fa : Addr) (h : Heap), YP w h → (K w.params).In h → h.Ns mainGlobals mg → mg d.name = some (.ref fa) →
      ∃ (fd : FuncData) (cs : List (Addr × Addr)), (K w.params).In h ∧ (∀ p ∈ cs, h.get? p.2 = some { cls := .none, data := .fields #[] }) ∧ (∀ p ∈ cs, (K w.params).lookup p.2 = none) ∧ (∀ p ∈ cs, PySem.W.CodeHd h p.1 p.2) ∧ (K w.params).lookup sysModules = none ∧ (∀ (t : Shared) (u : Value), BindsTo t fd ⟨[u], []⟩ [(x, u)]) ∧
        ∀ base : Heap, (K w.params).In base → base.Ns mainGlobals mg → (∀ p ∈ cs, LamX.TabB base mg p.1 p.2) → FnG l.prog w (K w.params) mg base k fa fd [x] (spLawT (K w.params) cs)) :
    PySem.W.WalkO q loose XP YP l.row.toRowW d [] (fun f vs => PySem.call f vs) := by
  refine Att.attach_call hn hdf ?_
  intro w s₀ s₁ mg mb fa o pm cd doc a vs ns G Y ho hd hcd hmg hobj hints hlen hg
  obtain ⟨fd, cs, hK, hT, nT, hC, n1, hb, hF⟩ := F w mg fa _ Y (hY w _ Y) G.T.g hmg
  obtain ⟨mm, ⟨o1, es1, ep1, e1, d1, _⟩, _⟩ := (G.T.seer him).mods
  exact lawGT hK G.T.g G.T.b G.T.builtins G.T.nolimit hg hT nT hC e1 d1 n1 G.T.bmain hobj hints hlen hr hF hb
end V
namespace V
open PySem PySem.Spec PyProof.Rows L2 U StX
theorem mneN {M : Mem} {a b : Addr} {o : MO} (h' : M a = none) (h : M b = some o) : a ≠ b := by
  rintro rfl
  rw [h] at h'
  cases h'
theorem ne_of_beqF {a b : Addr} (h : (a == b) = false) : a ≠ b := fun e => by
  rw [e] at h
  simp at h
def tEither (a b : TE) : TE := fun σ H Q => a σ H Q ∨ b σ H Q
def dEither (a b : DE) : DE := fun δ M P => a δ M P ∨ b δ M P
instance pu_either {ta tb : TE} {da db : DE} [A : PuE ta da] [B : PuE tb db] : PuE (tEither ta tb) (dEither da db) := ⟨fun S M σ δ H P Q w e h k => h.elim (fun h => .inl (A.run S M σ δ H P Q w e h k)) (fun h => .inr (B.run S M σ δ H P Q w e h k))⟩
abbrev dEitherX (a b : QX → DE) : QX → DE := fun q => dEither (a q) (b q)
theorem x_orL {a b : QX → DE} {q : QX} {δ : Dl} {M : Mem} {P : QD} (h : a q δ M P) : dEitherX a b q δ M P := .inl h
theorem x_orR {a b : QX → DE} {q : QX} {δ : Dl} {M : Mem} {P : QD} (h : b q δ M P) : dEitherX a b q δ M P := .inr h
instance pux_either {E : XK} {ta tb : TE} {da db : QX → DE} [A : PuXE E ta da] [B : PuXE E tb db] : PuXE E (tEither ta tb) (dEitherX da db) := ⟨fun S M σ δ H P q Q w e h k x => h.elim (fun h => .inl (A.run S M σ δ H P q Q w e h k x)) (fun h => .inr (B.run S M σ δ H P q Q w e h k x))⟩
end V
namespace V
open PySem PySem.Spec PyProof.Rows L2 U StX
abbrev dOpX (r : DR) (a : QX → DE) (b : DE) : QX → DE := fun q => dOp r (a q) b
section
variable {E : XK} {ta tb : TE} {da : QX → DE} {db : DE} {r : R2} {rd : DR}
instance pux_op [A : PuXE E ta da] [B : PuE tb db] [R : OpD r rd] : PuXE E (tOp r ta tb) (dOpX rd da db) := ⟨fun S M σ δ H P q Q w e h k x =>
  A.run S M σ δ H _ q _ w e h (fun d S1 M1 v H1 p1 t1 w1 h1 =>
    B.run S1 M1 σ δ H1 _ _ w1 (e.step w t1) p1 fun d2 S2 M2 v2 H2 p2 t2 w2 h2 =>
      R.run S2 M2 H2 _ _ _ _ P Q w2 (dt_step w1 t2 _ h1) h2 p2 (k.go (t1.trans t2))) x⟩
end
def dCallLX (i : Nat) (f : Addr) (sp : DCX) (q : QX) (t : DA) : DE := fun δ M P => δ[i]? = some (some (.ptr f)) ∧ t δ M fun ds M1 => sp ds M1 P q
instance pux_callL {i : Nat} {f : Addr} {sp : DCX} {E : XK} {t : TA} {dt : DA} [A : PuA t dt] : PuXE E (tCallL i f (liftX sp) [] E t) (fun q => dCallLX i f sp q dt) := ⟨fun S M σ δ H P q Q w e h k x => by
  obtain ⟨v, hv, hd⟩ := e.at_ i _ h.1
  cases hd
  exact ⟨hv, A.run S M σ δ H _ _ w e h.2 fun ds S1 M1 vs H1 p1 t1 w1 h1 => by
    rw [List.append_nil]
    exact ⟨S1, M1, ds, P, q, w1, h1, p1, k.go t1, x.go t1⟩⟩⟩
def tCallLN (i : Nat) (f : Addr) (n : Nat) (sp : Sp) (g : List V → List V → List V) (E : XK) (tk : TA) : TE := fun σ H Q => σ[i]? = some (some (.ref f)) ∧ tk σ H fun zs H1 => zs.length = n ∧ sp (g [] zs) H1 Q E
def dCallLN (i : Nat) (f : Addr) (n : Nat) (sp : DCX) (g : List D → List D → List D) (q : QX) (tk : DA) : DE := fun δ M P => δ[i]? = some (some (.ptr f)) ∧ tk δ M fun es M1 => es.length = n ∧ sp (g [] es) M1 P q
instance pux_callLN {i n : Nat} {f : Addr} {sp : DCX} {E : XK} {gV : List V → List V → List V} {gD : List D → List D → List D} {tk : TA} {dk : DA} [B : PuA tk dk] [G : RelG gV gD] : PuXE E (tCallLN i f n (liftX sp) gV E tk) (fun q => dCallLN i f n sp gD q dk) := ⟨fun S M σ δ H P q Q w e h k x => by
  obtain ⟨v, hv, hd⟩ := e.at_ i _ h.1
  cases hd
  exact ⟨hv, B.run S M σ δ H _ _ w e h.2 fun es S1 M1 zs H1 p1 t1 w1 h1 => ⟨by rw [h1.length]; exact p1.1, S1, M1, _, P, q, w1, G.run S1 H1 _ _ _ _ .nil h1, p1.2, k.go t1, x.go t1⟩⟩⟩
section
variable {δ : Dl} {M : Mem} {P : QD} {t : DA} {q : QX} {nx : QS} {rt : QD} {G : Mem → Prop} {g : DG} {b : DS} {x d : D} {xs : List D}
theorem x_callLX {i : Nat} {f : Addr} {sp : DCX} {v : D} (e : δ[i]? = some (some v)) (e2 : v = .ptr f) (h : t δ M fun ds M1 => sp ds M1 P q) : dCallLX i f sp q t δ M P := ⟨by rw [← e2]; exact e, h⟩
theorem x_callLN {i n : Nat} {f : Addr} {sp : DCX} {gD : List D → List D → List D} {v : D} (e : δ[i]? = some (some v)) (e2 : v = .ptr f) (h : t δ M fun es M1 => es.length = n ∧ sp (gD [] es) M1 P q) : dCallLN i f n sp gD q t δ M P := ⟨by rw [← e2]; exact e, h⟩
theorem x_opX {r : DR} {a : QX → DE} {c : DE} (h : a q δ M fun x M1 => c δ M1 fun y M2 => r x y M2 P) : dOpX r a c q δ M P := h
theorem x_loopC (h : g x δ M fun δ1 M1 => b (fun δ' M' => G M' ∧ dLoop G g b nx rt xs δ' M') rt nx (fun δ' M' => G M' ∧ dLoop G g b nx rt xs δ' M') δ1 M1) : dLoop G g b nx rt (x :: xs) δ M := h
theorem x_loopN (h : nx δ M) : dLoop G g b nx rt [] δ M := h
/-- an append, its two steps -/
theorem x_ap1 {l : Addr} {p : Addr → Prop} (h : M l = some (.lst xs)) (q : p l) : ∃ l', D.ptr l = D.ptr l' ∧ (∃ xs, M l' = some (.lst xs)) ∧ p l' := ⟨l, rfl, ⟨xs, h⟩, q⟩
theorem x_ap2 {l : Addr} {N : Nat} {p : List D → D → Prop} (h : M l = some (.lst xs)) (hl : xs.length < N) (q : p xs d) : ∃ xs y, [d] = [y] ∧ M l = some (.lst xs) ∧ xs.length < N ∧ p xs y := ⟨xs, d, rfl, h, hl, q⟩
end
theorem kt_of {K : PySem.W.Frag} {C : Addr} (h1 : PySem.W.kitOne K (.type "NoneType") (.ref C) = some false) (h2 : PySem.W.kitOne K (.type "bool") (.ref C) = some false) (h3 : PySem.W.kitOne K (.type "int") (.ref C) = some false) (h4 : PySem.W.kitOne K (.type "str") (.ref C) = some false)
    (h5 : PySem.W.kitOne K (.type "list") (.ref C) = some false) (h6 : PySem.W.kitOne K (.type "tuple") (.ref C) = some false) (h7 : PySem.W.kitOne K (.type "dict") (.ref C) = some false) : ∀ t ∈ (["NoneType", "bool", "int", "str", "list", "tuple", "dict"] : List String), PySem.W.kitOne K (.type t) (.ref C) = some false := fun t ht => by
  simp only [List.mem_cons, List.not_mem_nil, or_false] at ht
  rcases ht with rfl | rfl | rfl | rfl | rfl | rfl | rfl
  · exact h1
  · exact h2
  · exact h3
  · exact h4
  · exact h5
  · exact h6
  · exact h7
theorem kx_of {K : PySem.W.Frag} {C : Addr} (h3 : PySem.W.kitOne K (.ref C) (.type "int") = some false) (h2 : PySem.W.kitOne K (.ref C) (.type "bool") = some false) (h4 : PySem.W.kitOne K (.ref C) (.type "str") = some false)
    (h5 : PySem.W.kitOne K (.ref C) (.type "list") = some false) (h6 : PySem.W.kitOne K (.ref C) (.type "tuple") = some false) (h7 : PySem.W.kitOne K (.ref C) (.type "dict") = some false) : ∀ t ∈ (["int", "bool", "str", "list", "tuple", "dict"] : List String), PySem.W.kitOne K (.ref C) (.type t) = some false := fun t ht => by
  simp only [List.mem_cons, List.not_mem_nil, or_false] at ht
  rcases ht with rfl | rfl | rfl | rfl | rfl | rfl
  · exact h3
  · exact h2
  · exact h4
  · exact h5
  · exact h6
  · exact h7
theorem sizeLineN : sizeLine = 16777216 := by rw [sizeLine_eq]
theorem mset_comm {M : Mem} {a b : Addr} {o u : MO} (h : a ≠ b) : mset (mset M a o) b u = mset (mset M b u) a o := by
  funext c
  by_cases h1 : c = b
  · subst h1
    rw [mset_same, mset_ne (Ne.symm h), mset_same]
  · by_cases h2 : c = a
    · subst h2
      rw [mset_ne h1, mset_same, mset_same]
    · rw [mset_ne h1, mset_ne h2, mset_ne h2, mset_ne h1]
theorem mset_set2 {M : Mem} {a b : Addr} {o u o' : MO} (h : b ≠ a) : mset (mset (mset M a o) b u) a o' = mset (mset M a o') b u := by
  rw [mset_comm h, mset_set]
theorem mset_get2 {M : Mem} {a b : Addr} {o u : MO} (h : a ≠ b) : mset (mset M a o) b u a = some o := by rw [mset_ne h, mset_same]
end V
namespace V
open PySem PySem.Spec PyProof.Rows L2 U StX
/-- try: body except c: suite; what the body raises is of c -/
def tTry1 (K : PySem.W.Frag) (c : Value) (tb : XK → TS) (ts : TS) : TS := fun D σ H => tb (fun cls d H' => PySem.W.exmOne K cls c = some true ∧ ∀ σ' : L2.St, ts D σ' H') D σ H
def sTry1 (K : PySem.W.Frag) (c : Value) (db : QX → DS) (ds : DS) : DS := fun nx rt bk ct δ M => db (fun C _ M' => PySem.W.exmOne K (.ref C) c = some true ∧ ∀ n, ds nx rt bk ct (List.replicate n none) M') nx rt bk ct δ M
theorem en_none {S : Addr → Prop} {H : Hp} (σ : L2.St) : En S H σ (List.replicate σ.length none) := ⟨by rw [List.length_replicate], fun i d h => by
  rw [List.getElem?_replicate] at h
  split at h <;> cases h⟩
instance pu_try1 {K : PySem.W.Frag} {c : Value} {tb : XK → TS} {ts : TS} {db : QX → DS} {ds : DS} [A : ∀ E, PuXS E (tb E) db] [B : PuS ts ds] : PuS (tTry1 K c tb ts) (sTry1 K c db ds) := ⟨fun S M σ δ H nx rt bk ct D w e h l =>
  (A _).run S M σ δ H nx rt bk ct D _ w e h l fun C fs S' M' d H' q t w' _ => ⟨q.1, fun σ' => B.run S' M' σ' _ H' nx rt bk ct D w' (en_none σ') (q.2 σ'.length) (l.go t)⟩⟩
end V
namespace V
open PySem PySem.Spec PyProof.Rows L2 U StX
def rSplitU : V → List V → Hp → VK → Prop := fun x xs H Q => ∃ a b, x = .str a ∧ xs = [.str b] ∧ (b.length == 0) = false ∧ a.length + 2 ≤ sizeLine ∧ rNewStrs (Txt.split a b) H Q
def tSplit (a b : TE) : TE := tM1 rSplitU a b
theorem dtA_strD {S : Addr → Prop} {H : Hp} : ∀ ys : List Str, DtA S H (ys.map V.str) (ys.map D.str)
  | [] => .nil
  | y :: ys => .cons (.str y) (dtA_strD ys)
def rSplit1 : DR := fun x y M P => ∃ z s, x = .str z ∧ y = .str s ∧ (s.length == 0) = false ∧ z.length + 2 ≤ sizeLine ∧ P (.lst ((Txt.split z s).map D.str)) M
def dJoin1S (a b : DE) : DE := fun δ M P => a δ M fun x M1 => (∃ z, x = .str z) ∧ b δ M1 fun y M2 => rSplit1 x y M2 P
instance pu_split {ta tb : TE} {da db : DE} [A : PuE ta da] [B : PuE tb db] : PuE (tSplit ta tb) (dJoin1S da db) := ⟨fun S M σ δ H P Q w e h k => by
  refine A.run S M σ δ H _ _ w e h fun d S1 M1 v H1 p1 t1 w1 h1 => ?_
  obtain ⟨⟨z, rfl⟩, p1⟩ := p1
  cases h1
  refine ⟨⟨z, rfl⟩, B.run S1 M1 σ δ H1 _ _ w1 (e.step w t1) p1 fun d2 S2 M2 v2 H2 p2 t2 w2 h2 => ?_⟩
  obtain ⟨z', s, e1, rfl, h3, h4, q⟩ := p2
  cases e1
  cases h2
  exact ⟨z, s, rfl, rfl, h3, h4, fun p hp => k _ _ _ _ _ q ((t1.trans t2).trans (.new hp)) (w2.new hp) (.lst (w2.ns hp) upd_same ((dtA_strD _).sm (Same.new hp)))⟩⟩
theorem x_split {a b : DE} {δ : Dl} {M : Mem} {P : QD} (h : a δ M fun x M1 => (∃ z, x = .str z) ∧ b δ M1 fun y M2 => rSplit1 x y M2 P) : dJoin1S a b δ M P := h
end V
namespace V
open PySem PySem.Spec PyProof.Rows L2 U StX
def tLenSetX (K : PySem.W.Frag) (ta : TE) : TE := tLenSetS K ta
def dLenSetX (a : DE) : DE := fun δ M P => a δ M fun x M1 => ∃ ts : List Str, isTF x (ts.map D.str) ∧ ts.length ≤ 4000 ∧ P (.int ((metS ts).length : Nat)) M1
instance pu_lenSetX {K : PySem.W.Frag} {ta : TE} {da : DE} [A : PuE ta da] : PuE (tLenSetX K ta) (dLenSetX da) := ⟨fun S M σ δ H P Q w e h k =>
  A.run S M σ δ H _ _ w e h fun d S1 M1 v H1 p1 t1 w1 h1 => by
    obtain ⟨ts, h2, hn, p1⟩ := p1
    obtain ⟨a, vs, rfl, n, ha, hs⟩ := tf_get h1 h2
    have eu := hs.strs_eq
    subst eu
    exact ⟨_, ts, rfl, .inr (Or.inl ha), hn, k _ S1 M1 _ H1 p1 t1 w1 (.int _)⟩⟩
end V
namespace V
open PySem PySem.Spec PyProof.Rows L2 U
section
variable {X : Cx} {n : Nat} {f : Addr} {fd : FuncData} {ps : List Str} {C : Addr} {sp : Sp}
def rLenO (C : Addr) (sp : Sp) : List V → Hp → VK → Prop := fun xs H Q => ∃ (a : Addr) (dx : Addr) (fs : List (Str × V)), xs = [.ref a] ∧ H a = some (.ins C dx fs) ∧ sp [.ref a] H (fun v H' => ∃ m : Int, v = .int m ∧ 0 ≤ m ∧ m < 2 ^ 63 ∧ Q (.int m) H') L2.E0
def rLenO1 (C : Addr) (sp : DC) : DC := fun ds M P => ∃ p fs, ds = [.ptr p] ∧ M p = some (.ins C fs) ∧ sp [.ptr p] M fun d M' => ∃ m : Int, d = .int m ∧ 0 ≤ m ∧ m < 2 ^ 63 ∧ P (.int m) M'
instance cb_lenO {C : Addr} {sp : DC} : CbD (rLenO C (lift sp)) (rLenO1 C sp) := ⟨fun S M H vs ds P Q w hv h k => by
  obtain ⟨p, fs, rfl, hm, q⟩ := h
  match vs, hv with
  | [v], .cons h1 .nil =>
    obtain ⟨a, dx, fs', rfl, ha, _, _⟩ := in_get w h1 (.inr ⟨p, fs, rfl, hm, rfl, rfl⟩)
    refine ⟨a, dx, fs', rfl, ha, S, M, [.ptr p], _, w, .cons h1 .nil, q, fun d S' M' v' H' e st w' hd => ?_⟩
    obtain ⟨m, rfl, k0, k1, pp⟩ := e
    cases hd
    exact ⟨m, rfl, k0, k1, k _ S' M' _ H' pp st w' (.int m)⟩⟩
end
end V
namespace V
open PySem PySem.Spec PyProof.Rows L2 U StX
structure FnQ (P : Program) (w : World) (K : PySem.W.Frag) (mg : Str → Option Value) (base : Heap) (k : Nat) (f : Addr) (fd : FuncData) (ps : List Str) (sp : Sp) : Prop where
  len : ∀ vs H Q E, sp vs H Q E → vs.length = ps.length
  run : ∀ (A : Around) (outer : List Env) (s : Shared) (H : Hp) (args : Args) (us : List Value) (vs : List V) (Q : VK) (E : XK), L2H.RoomH k A → Env0 P w K mg base A outer s H → BindsTo s fd args (ps.zip us) → Vals vs us → sp vs H Q E →
    codeAny (model P w) A (.call (.ref f) args) (CR C8.CX0 outer P w H s Q E) s
/-- the context of such a def's body -/
def cxQ (P : Program) (w : World) (K : PySem.W.Frag) (mg : Str → Option Value) (base : Heap) (N : List Str) (qual : Str) (scope : Scope) (f : Addr) (cd : Value) (A : Around) (outer : List Env) (s : Shared) (H : Hp) (E : XK) : Cx :=
  { (cxOf C8.CX0 P w K mg base N qual scope f cd A outer s H E).nox with calm := false }
theorem inv_startQ {P : Program} {w : World} {K : PySem.W.Frag} {mg : Str → Option Value} {base : Heap} {N ps : List Str} {qual : Str} {scope : Scope} {f : Addr} {cd : Value} {A : Around} {outer : List Env} {s s1 : Shared} {H : Hp} {E : XK} {us : List Value} {vs : List V}
    (S : FnScope N ps scope) (e0 : Env0 P w K mg base A outer s H) (hl : vs.length = ps.length) (r : Vals vs us)
    (x : InCallC s s.heap.objs.size (bindL (envOfC qual scope s.heap.objs.size f cd).kindOf (ps.zip us) fun _ => none) (cellsFrom (s.heap.objs.size + 1) scope.names []) (bindC (envOfC qual scope s.heap.objs.size f cd).kindOf (ps.zip us) fun _ => none) s1) :
    Inv (cxQ P w K mg base N qual scope f cd A outer s H E) [] (L2.start N vs) H s1 := by
  have hpl : ps.length ≤ N.length := by have := congrArg List.length S.pre; rw [List.length_take] at this; omega
  obtain ⟨h1, tk, rfl, hk⟩ := x.done
  have noA : ∀ b : Addr, b ∉ (cxQ P w K mg base N qual scope f cd A outer s H E).ex := fun b z => absurd (show b ∈ ([] : List Addr) from z) (by simp)
  refine ⟨⟨e0.mod, S.kind, rfl, rfl, Nat.le_refl _, fun y z c h1 h2 => ?_, fun y hy => ?_, fun y c _ h => ?_, (fun z => Bool.noConfusion (show false = true from z)), Around.frames_deeper e0.frames, .inr ⟨rfl, rfl⟩, fun b z => absurd z (noA b), e0.bs, e0.bsz, fun b _ _ => noA b, fun b z => absurd z (noA b), e0.funs, e0.frf⟩,
    rfl, e0.bare, Un.kept hk, ⟨_, x.toInCall.ns, fun i y v h1 h2 h3 => ?_⟩, fun y c h => ⟨_, x.cell y c h⟩, e0.hok.fresh (Nat.le_refl _), fun y c h => ?_, fun q hq => ?_, e0.hok.kept hk, ?_⟩
  · exact name_of_addr x.apart (PySem.mem_of_lookup h1) (PySem.mem_of_lookup h2)
  · have hy : scope.names.lookup y = some .cell ∨ scope.names.lookup y = some .free := hy
    rcases hy with hy | hy
    · exact cell_has hy
    · exact absurd rfl (S.nofree _ (PySem.mem_of_lookup hy))
  · exact Nat.le_of_lt (x.above y c (PySem.mem_of_lookup h))
  · have hi : i < vs.length := by
      unfold L2.start at h2
      by_cases hi : i < vs.length
      · exact hi
      · rw [List.getElem?_append_right (by simpa using hi)] at h2
        rw [List.getElem?_replicate] at h2
        split at h2 <;> cases h2
    have ha : vs[i]? = some v := by
      unfold L2.start at h2
      rw [List.getElem?_append_left (by simpa using hi), List.getElem?_map] at h2
      cases e : vs[i]? with
      | none => rw [e] at h2; cases h2
      | some a => rw [e] at h2; cases h2; rfl
    obtain ⟨u, hu, rv⟩ := r.get ha
    have hp : ps[i]? = some y := by
      rw [← S.pre, List.getElem?_take_of_lt (by omega)]; exact h1
    have ndP : ps.Nodup := by rw [← S.pre]; exact S.nd.sublist (List.take_sublist _ _)
    refine ⟨u, rv, ?_⟩
    rcases S.par y (List.mem_of_getElem? hp) with k | k
    · exact .inl ⟨k, bindL_get ndP hp hu k⟩
    · obtain ⟨c, e⟩ := cell_has (n := s.heap.objs.size + 1) k
      refine .inr ⟨.inl k, c, e, ?_⟩
      have q := x.cell y c e
      rw [bindC_get ndP hp hu (by show scope.names.lookup y ≠ _; rw [k]; decide)] at q
      exact q
  · exact e0.hok.fresh (Nat.le_of_lt (x.above y c (PySem.mem_of_lookup h)))
  · exact absurd (show q ∈ ([] : List (Addr × Obj)) ++ [] from hq) (by simp)
  · unfold L2.start
    show _ = N.length
    rw [List.length_append, List.length_map, List.length_replicate]
    omega
section
variable {P : Program} {w : World} {K : PySem.W.Frag} {mg : Str → Option Value} {base : Heap} {x qual : Str} {st : Stmt} {f : Addr} {fd : FuncData} {N ps : List Str} {k : Nat} {sp : Sp} {sd : DC}
theorem fnQ_of (F : L2.Fun K x qual st f fd) (S : FnScope N ps (L2.defScope st)) (len : ∀ vs H Q E, sp vs H Q E → vs.length = ps.length)
    (hb : ∀ (cdv : Value) (A : Around) (outer : List Env) (s : Shared) (H : Hp) (vs : List V) (Q : VK) (E : XK), L2H.RoomH k (A.deeper (envOfC qual (L2.defScope st) s.heap.objs.size f cdv)) → sp vs H Q E →
      ∃ t, PSs (cxQ P w K mg base N qual (L2.defScope st) f cdv A outer s H E) (L2.defBody st) t ∧ t { nx := fun _ H' => Q .non H', rt := Q } (L2.start N vs) H) :
    FnQ P w K mg base (k + 1) f fd ps sp := by
  obtain ⟨oc, od, kV, doc, pm, an, cdv, ct, osl, rfl, lk, hcd⟩ := F.ex
  refine ⟨len, fun A outer s H args us vs Q E hr e0 hbd r hsp => ?_⟩
  have hl : vs.length = ps.length := len _ _ _ _ hsp
  have KX : K.In s.heap := e0.mod.kin.keeps (fun b o e => (e0.bs b o e).1)
  have lim : s.heap.NoLimit := e0.mod.nolimit.keeps (fun b o e => (e0.bs b o e).1)
  have kinds : ∀ y ∈ ps.zip us, (L2.defScope st).names.lookup y.1 = some .local ∨ ((L2.defScope st).names.lookup y.1 = some .cell ∧ ((cellsFrom (s.heap.objs.size + 1) (L2.defScope st).names []).lookup y.1).isSome = true) := by
    rintro ⟨n, v⟩ hy
    rcases S.par n (List.of_mem_zip hy).1 with q | q
    · exact Or.inl q
    · exact Or.inr ⟨q, PySem.W.cellsFrom_some _ _ _ (Or.inl q)⟩
  refine codeAny_call_function hr.depth (KX _ _ lk) rfl S.co S.gen rfl (PySem.W.codeRec_of KX hcd) (hbd _ _ _ _ ?_)
  refine wpAny_newFunctionEnv_cells S.kind kinds (fun env he s1 z => ?_)
  subst he
  refine ⟨lim.keeps z.toInCall.keep, codeAny_func ?_⟩
  obtain ⟨t, ht0, hq⟩ := hb cdv A outer s H vs Q E (hr.deeper _) hsp
  have I := inv_startQ (E := E) S e0 hl r z
  refine wpAny_mono (ht0.run [] s1 (L2.start N vs) H _ I hq) ?_ (fun e s' hs => False.elim hs)
  intro fl s' hs
  cases fl with
  | next =>
    obtain ⟨σ', H', J, q⟩ := hs
    exact ⟨V.non, H', J.os, J.bare, J.base, J.hok, rfl, q⟩
  | brk =>
    obtain ⟨_, _, _, q⟩ := hs
    exact q.elim
  | cont =>
    obtain ⟨_, _, _, q⟩ := hs
    exact q.elim
  | ret u =>
    obtain ⟨v, σ', H', J, rv, q⟩ := hs
    exact ⟨v, H', J.os, J.bare, J.base, J.hok, rv, q⟩
theorem fnQD (F : L2.Fun K x qual st f fd) (S : FnScope N ps (L2.defScope st)) (len : ∀ ds M P, sd ds M P → ds.length = ps.length)
    (hb : ∀ (cdv : Value) (A : Around) (outer : List Env) (s : Shared) (H : Hp) (E : XK), L2H.RoomH k (A.deeper (envOfC qual (L2.defScope st) s.heap.objs.size f cdv)) →
      ∃ t, PSs (cxQ P w K mg base N qual (L2.defScope st) f cdv A outer s H E) (L2.defBody st) t ∧ ∃ dt, PuS t dt ∧ ∀ ds M P, sd ds M P → dt (fun _ M' => P .non M') P (fun _ _ => False) (fun _ _ => False) (startD N ds) M) :
    FnQ P w K mg base (k + 1) f fd ps (lift sd) :=
  fnQ_of F S (liftLen len) fun cdv A outer s H vs Q E hr h => by
    obtain ⟨t, ht, dt, AA, go⟩ := hb cdv A outer s H E hr
    refine ⟨t, ht, ?_⟩
    obtain ⟨S, M, ds, R, w, h, p, k⟩ := h
    exact AA.run S M _ _ H _ _ _ _ _ w (en_start N h) (go ds M R p) ⟨fun δ' S' M' σ' H' q t w e => k _ S' M' _ H' q t w .non, k, fun _ _ _ _ _ q => q.elim, fun _ _ _ _ _ q => q.elim⟩
/-- a quiet def is one that may be called from where nothing is caught -/
theorem FnQ.ok (F : FnQ P w K mg base k f fd ps sp) : FnOk P w K mg base C8.CX0 k f fd ps sp := ⟨F.len, fun A outer s H args us vs Q E hr e0 hb r h => F.run A outer s H args us vs Q E (L2H.roomH_of hr) e0 hb r h⟩
end
section
variable {X : Cx} {k : Nat} {f : Addr} {fd : FuncData} {ps : List Str} {sp : Sp} {x : Str} {p pos : Pos} {e : Expr} {es : List Expr} {t : TA} {pins : List (Addr × Obj)} {σ : L2.St} {H : Hp} {s : Shared} {Q : VK} {us : List Value} {vs : List V}
theorem run_fnQ (F : FnQ X.prog X.w X.K X.mg X.base k f fd ps sp) (hr : L2H.RoomH k X.A) (hb : Binds X.K fd ps []) (I : Inv X pins σ H s) (r : Vals vs us) (h : sp vs H Q C8.E0) : wpAny (model X.prog X.w) X.A (call (.ref f) us) (EP X pins σ Q) X.xe s := by
  have hl : us.length = ps.length := by rw [← r.length]; exact F.len _ _ _ _ h
  have b := hb s us I.kIn (by rw [List.append_nil]; exact hl)
  rw [List.append_nil] at b
  refine wpAny_call (codeAny_mono (F.run X.A X.stack s H ⟨us, []⟩ us vs Q C8.E0 hr I.env0 b r h) fun r s' hq => ?_)
  cases r with
  | error e => exact (show False from hq).elim
  | ok fl =>
    cases fl with
    | ret u => exact I.after hq
    | next => exact False.elim hq
    | brk => exact False.elim hq
    | cont => exact False.elim hq
theorem pe_callQ (F : FnQ X.prog X.w X.K X.mg X.base k f fd ps sp) (hr : L2H.RoomH k X.A) (hg : Gl X x) (hm : X.mg x = some (.ref f)) (hk : PySem.W.keepIn X.K (.ref f) = true) (hb : Binds X.K fd ps [])
    (ha : PA X (e :: es) t) (hdb : (x == ("__debug__" : Str)) = false := by decide) (he : starEach (e :: es) X.env = (false, eval e X.env) :: starEach es X.env := by rfl) (hpl : (backTo pos (starEach es X.env)).any (·.1) = false := by rfl) :
    PE X (.Call (.Name x p) (e :: es) [] pos) (tCall sp [] C8.E0 t) := by
  refine ⟨fun pins s σ H Q I h => ?_⟩
  refine wpAny_Call_Name_kw (ld_glob I hg hm ?_ hdb)
  refine PySem.W.callWith_K (h₀ := X.base) I.ok.mod.kin hk (thn (ha.run pos pins s σ H _ I h) fun us s1 ⟨vs, H1, I1, r, q⟩ => ⟨I1.kIn, ?_⟩) he hpl
  have q : sp (vs ++ []) H1 Q C8.E0 := q
  rw [List.append_nil] at q
  exact run_fnQ F hr hb I1 r q
end
abbrev xObj (oe : Obj) : HO := .frz oe (.ext fun _ => True)
section
variable {X : Cx} {pins : List (Addr × Obj)} {σ : L2.St} {H : Hp} {s : Shared} {a : Addr} {oe : Obj} {us : Array Value}
theorem inv_held (I : Inv X pins σ H s) (ha : s.heap.get? a = some oe) (hd : oe.data = .fields us) (na : H a = none) (nL : a ≠ X.env.locals) (n0 : ∀ o, X.s_0.heap.get? a = some o → a ∈ X.ex) (np : ∀ p ∈ X.pn ++ pins, p.1 ≠ a) :
    Inv X pins σ (upd H a (xObj oe)) s := by
  refine ⟨I.ok, I.os, I.bare, ⟨I.base.keep, I.base.slot, fun b o e n hx => ?_, I.base.there, fun b xs e => ?_, fun b o u e => ?_, fun b ps e => ?_⟩, I.loc, I.cell, ?_, fun y c e => ?_, fun p hp => ?_, fun b u e => ?_, I.len⟩
  · by_cases c : b = a
    · subst c
      exact absurd (n0 o e) hx
    · rw [upd_ne c]
      exact I.base.free b o e n hx
  · by_cases c : b = a
    · subst c
      have z := I.base.tups b xs e
      rw [na] at z
      cases z
    · rw [upd_ne c]; exact I.base.tups b xs e
  · by_cases c : b = a
    · subst c
      have z := I.base.frzs b o u e
      rw [na] at z
      cases z
    · rw [upd_ne c]; exact I.base.frzs b o u e
  · by_cases c : b = a
    · subst c
      obtain ⟨more, z⟩ := I.base.tbls b ps e
      rw [na] at z
      cases z
    · rw [upd_ne c]; exact I.base.tbls b ps e
  · rw [upd_ne (Ne.symm nL)]; exact I.free
  · have nc : c ≠ a := fun z => by
      obtain ⟨v, o, ho, hv⟩ := I.cell y c e
      rw [z, ha] at ho
      cases ho
      rw [hd] at hv
      cases hv
    rw [upd_ne nc]
    exact I.freeC y c e
  · obtain ⟨g1, g2, g3, g4, g5⟩ := I.pin p hp
    exact ⟨g1, by rw [upd_ne (np p hp)]; exact g2, g3, g4, g5⟩
  · by_cases c : b = a
    · subst c
      rw [upd_same] at e
      cases e
      exact ⟨ha, trivial, ⟨_, ha⟩, fun _ _ _ _ => trivial⟩
    · rw [upd_ne c] at e
      refine (I.hok b u e).stay (fun _ _ _ z => z) (fun d z => ?_) fun d xs z => ?_
      · rw [upd_ne (fun y => by rw [y, na] at z; cases z)]; exact z
      · rw [upd_ne (fun y => by rw [y, na] at z; cases z)]; exact z
theorem inv_suite0 (I : Inv X pins σ H s) : Inv (X.suite a (X.pn ++ pins)) [] σ H s :=
  ⟨I.ok.suite _ _, I.os, I.bare, I.base, I.loc, I.cell, I.free, I.freeC, fun p hp => I.pin p (by rw [List.append_nil] at hp; exact hp), I.hok, I.len⟩
theorem inv_unsuite0 {pn' : List (Addr × Obj)} (I : Inv (X.suite a (X.pn ++ pins)) pn' σ H s) (ok : X.Ok) : Inv X pins σ H s :=
  ⟨ok, I.os, I.bare, I.base, I.loc, I.cell, I.free, I.freeC, fun p hp => I.pin p (List.mem_append_left _ hp), I.hok, I.len⟩
end
/-- isinstance(e, c), e an exception -/
def rIsX (K : PySem.W.Frag) : List V → Hp → VK → Prop := fun xs H Q => ∃ (a D : Addr) (oe : Obj) (us : Array Value) (c : V) (cv : Value) (b : Bool), xs = [.ref a, c] ∧ H a = some (xObj oe) ∧ oe.cls = .ref D ∧ oe.data = .fields us ∧ (oe.dict = none ∨ ∃ dd gs, oe.dict = some dd ∧ H dd = some (.xd gs)) ∧
  ExcC K D ∧ (∀ u, RelV c u → u = cv) ∧ PySem.W.kitOne K (.ref D) cv = some b ∧ Q (.bl b) H
theorem call_isX {X : Cx} {K : PySem.W.Frag} (hK : X.K = K) : CallR X (.builtin "isinstance") (rIsX K) := by
  subst hK
  intro pins s σ H xs us Q I r h
  obtain ⟨a, D, oe, vs, c, cv, b, rfl, ha, hcl, hv, hdi, C, hcv, e, q⟩ := h
  match us, r with
  | [u0, u1], .cons rx (.cons rt .nil) =>
      cases rx
      have ec := hcv _ rt
      subst ec
      obtain ⟨hget, _⟩ : s.heap.get? a = some oe ∧ True := ⟨(I.hok a _ ha).1, trivial⟩
      have fin : ∀ {od : Option Obj}, PySem.W.InstAt s.heap a oe D od → PySem.W.KitX X.K (.ref a) (.ref D) (fun h => PySem.W.InstAt h a oe D od) → wpAny (model X.prog X.w) X.A (call (.builtin "isinstance") [.ref a, u1]) (EP X pins σ Q) X.xe s := fun J kx =>
        PySem.W.kia_one kx I.kIn J e (fun z => nomatch z) fun tk => ⟨.bl b, H, I.kept (t' := tk) fun _ _ z => z, rfl, q⟩
      rcases hdi with hn | ⟨dd, gs, hdd, hx⟩
      · have J : PySem.W.InstAt s.heap a oe D none := by
          obtain ⟨oc, od, oda, osl⟩ := oe
          dsimp only at hcl hv hn
          subst hcl hv hn
          exact ⟨hget, rfl, rfl, trivial⟩
        exact fin J (PySem.W.handS_kitx_exc C.hg C.hk C.hs C.hd C.ha C.hn C.ht C.hm)
      · have hx : ObjOk X.prog X.w H s.heap dd (.xd gs) := I.hok dd _ hx
        obtain ⟨mA, ⟨od, es, ep, ho, hr⟩, _⟩ := hx
        have J : PySem.W.InstAt s.heap a oe D (some od) := ⟨hget, hcl, by unfold PySem.W.notCls; rw [hv] <;> rfl, by rw [hdd]; exact ho⟩
        have hcl2 : (PySem.W.clsIn X.K D).isSome = true := by
          have z := C.hd
          unfold PySem.W.hasDictIn at z
          cases hc : PySem.W.clsIn X.K D with
          | none => rw [hc] at z; exact absurd z (by decide)
          | some cd => rfl
        exact fin J (PySem.W.kitx_exc hcl2 C.hg C.hk C.hs C.ha C.hn C.ht C.hm)
/-- e.f, e an exception -/
def tXfT (K : PySem.W.Frag) (f : Str) (te : TE) : TE := fun σ H Q => te σ H fun x H1 => ∃ (a C : Addr) (oe : Obj) (us : Array Value) (dd : Addr) (gs : List (Str × V)) (v : V), x = .ref a ∧ H1 a = some (xObj oe) ∧ oe.cls = .ref C ∧ oe.data = .fields us ∧ oe.dict = some dd ∧ H1 dd = some (.xd gs) ∧
  XfC K C ∧ PySem.W.findIn K (.ref C) f = some none ∧ gs.lookup f = some v ∧ Q v H1
theorem pe_xfT {X : Cx} {K : PySem.W.Frag} (hK : X.K = K) {e : Expr} {te : TE} {pos : Pos} {n : Str} (he : PE X e te) (hb : attributeBase e n X.env (eval e X.env) = eval e X.env := by rfl) : PE X (.Attribute e n pos) (tXfT K n te) := by
  subst hK
  refine ⟨fun pins s σ H Q I h => ?_⟩
  refine attr_of hb (thn (he.run pins s σ H _ I h) fun u s1 hh => ?_)
  obtain ⟨x, H1, I1, rx, a, C, oe, us, dd, gs, v, ex, ha, hcl, hv, hdd, hx, T, hno, l, q⟩ := hh
  subst ex
  obtain rfl : u = Value.ref a := rx
  have hget : s1.heap.get? a = some oe := (I1.hok a _ ha).1
  have hx : ObjOk X.prog X.w H1 s1.heap dd (.xd gs) := I1.hok dd _ hx
  obtain ⟨mA, hns, hr⟩ := hx
  obtain ⟨od, ho, hl⟩ := lookIn_ns hns
  obtain ⟨u, hu, ru⟩ := RelO.some_of (v := v) (o := mA n) (by rw [← l]; exact hr n)
  have J : PySem.W.InstAt s1.heap a oe C (some od) := ⟨hget, hcl, by unfold PySem.W.notCls; rw [hv] <;> rfl, by rw [hdd]; exact ho⟩
  exact HandSPX.exc_get I1.kIn J T.ga T.gg T.exC (PySem.W.findObj_own T.hdC hno rfl (by rw [hl, hu])) (handed_of ru) ⟨v, H1, I1.tok _, ru, q⟩
def rIsXD (K : PySem.W.Frag) : DC := fun ds M P => ∃ (a C : Addr) (fs : List (Str × D)) (c : D) (cv : Value) (b : Bool), ds = [.ptr a, c] ∧ M a = some (.xob C fs) ∧ ExcC K C ∧ ((∃ A, c = .ptr A ∧ cv = .ref A) ∨ ∃ n, c = .ty n ∧ cv = .type n) ∧ PySem.W.kitOne K (.ref C) cv = some b ∧ P (.bl b) M
instance cb_isX {K : PySem.W.Frag} : CbD (rIsX K) (rIsXD K) := ⟨fun S M H vs ds P Q w hv h k => by
  obtain ⟨a, C, fs, c, cv, b, rfl, ha, E, hc, hk, p⟩ := h
  match vs, hv with
  | [v, u], .cons h0 (.cons h1 .nil) =>
    cases h0
    obtain ⟨_, oe, us, g1, g2, g3, g4⟩ := w.mem a _ ha
    refine ⟨a, C, oe, us, u, cv, b, rfl, g1, g2, g3, g4.imp (fun z => z.1) (fun ⟨dd, gs, e1, e2, e3, _⟩ => ⟨dd, gs, e1, e3⟩), E, fun u' r => ?_, hk, k _ S M _ H p .refl w (.bl b)⟩
    rcases hc with ⟨A, rfl, rfl⟩ | ⟨n, rfl, rfl⟩
    · cases h1
      exact r
    · cases h1
      exact r⟩
def dXf (K : PySem.W.Frag) (f : Str) (t : DE) : DE := fun δ M P => t δ M fun x M1 => ∃ (a C : Addr) (fs : List (Str × D)) (y : D), x = .ptr a ∧ M1 a = some (.xob C fs) ∧ XfC K C ∧ PySem.W.findIn K (.ref C) f = some none ∧ fs.lookup f = some y ∧ P y M1
instance pu_xfT {K : PySem.W.Frag} {f : Str} {te : TE} {dt : DE} [A : PuE te dt] : PuE (tXfT K f te) (dXf K f dt) := ⟨fun S M σ δ H P Q w e h k =>
  A.run S M σ δ H _ _ w e h fun d S1 M1 v H1 p1 t1 w1 h1 => by
    obtain ⟨a, C, fs, y, rfl, ha, X, hn, hl, p⟩ := p1
    cases h1
    obtain ⟨_, oe, us, g1, g2, g3, g4⟩ := w1.mem a _ ha
    rcases g4 with ⟨_, rfl⟩ | ⟨dd, gs, e1, e2, e3, e4, e5⟩
    · cases hl
    · obtain ⟨v, hv, hd⟩ := lookup_dt e4 e5 hl
      exact ⟨a, C, oe, us, dd, gs, v, rfl, g1, g2, g3, e1, e3, X, hn, hv, k _ S1 M1 _ H1 p t1 w1 hd⟩⟩
theorem x_xf {K : PySem.W.Frag} {f : Str} {t : DE} {δ : Dl} {M : Mem} {P : QD} (h : t δ M fun x M1 => ∃ (a C : Addr) (fs : List (Str × D)) (y : D), x = .ptr a ∧ M1 a = some (.xob C fs) ∧ XfC K C ∧ PySem.W.findIn K (.ref C) f = some none ∧ fs.lookup f = some y ∧ P y M1) : dXf K f t δ M P := h
end V
namespace V
open PySem PySem.Spec PyProof.Rows L2 U StX
theorem flying_keeps {B : Heap} {l : List Env} {a : Addr} {Z : Obj → Prop} {h h' : Heap} (f : HandSPX.FlyingZ B l a Z h) (k : ∀ b o, h.get? b = some o → h'.get? b = some o) : HandSPX.FlyingZ B l a Z h' := by
  obtain ⟨f1, f2, f3, oe, vs, T, oT, ts, g1, g2, g3, g4, g5, g6, g7, g8, g9⟩ := f
  exact ⟨fun b o e => k _ _ (f1 b o e), f2, f3.of_keeps fun b o hb _ => ⟨o, k _ _ hb, rfl⟩, oe, vs, T, oT, ts, k _ _ g1, g2, g3, g4, g5, g6, k _ _ g7, g8, g9⟩
section
variable {X : Cx} {n x1 x2 x3 : Str} {c1 c2 c3 : Value} {i : Nat} {body suite : List Stmt} {b₀ : Stmt} {np1 np2 np3 tpos pos pos' : Pos} {cx : Nat} {tb : XK → TS} {ts : TS}
/-- what a clause with three classes wishes, its name in slot i -/
def wTry3as (K : PySem.W.Frag) (N i : Nat) (c1 c2 c3 : Value) (ts : TS) (D : Ends) : XK := fun cls d H => PySem.W.exmAny K cls [c1, c2, c3] = some true ∧ ∀ (σ : L2.St) (a : Addr) (oe : Obj) (us : Array Value), σ.length = N → H a = none → oe.cls = cls → oe.dict = d → oe.data = .fields us →
  ts { nx := fun σ' H' => D.nx (σ'.set i none) H', rt := D.rt, bk := fun σ' H' => D.bk (σ'.set i none) H', ct := fun σ' H' => D.ct (σ'.set i none) H' } (σ.set i (some (.ref a))) (upd H a (xObj oe))
def tTry3as (K : PySem.W.Frag) (N i : Nat) (c1 c2 c3 : Value) (tb : XK → TS) (ts : TS) : TS := fun D σ H => tb (wTry3as K N i c1 c2 c3 ts D) D σ H
def wTry3 (K : PySem.W.Frag) (N : Nat) (c1 c2 c3 : Value) (ts : TS) (D : Ends) : XK := fun cls d H => PySem.W.exmAny K cls [c1, c2, c3] = some true ∧ ∀ σ : L2.St, σ.length = N → ts D σ H
def tTry3 (K : PySem.W.Frag) (N : Nat) (c1 c2 c3 : Value) (tb : XK → TS) (ts : TS) : TS := fun D σ H => tb (wTry3 K N c1 c2 c3 ts D) D σ H
theorem ps_try3as (hs : X.stack = X.env :: X.outer) (hf : X.env.frame = some X.env.locals) (hN : X.N.Nodup) (hi : X.N[i]? = some n) (hln : X.env.kindOf n = some .local) (h1 : Gl X x1 ∧ X.mg x1 = some c1) (h2 : Gl X x2 ∧ X.mg x2 = some c2) (h3 : Gl X x3 ∧ X.mg x3 = some c3)
    (hb : ∀ (E : XK) (pn : List (Addr × Obj)) (xe : Value → Shared → Prop), Takes (X.tr pn xe) (fun cls d _ H => E cls d H) → PassesOwn (model X.prog X.w) X.A X.env xe → PSs (X.tr pn xe) body (tb E))
    (hsu : ∀ (a : Addr) (pn : List (Addr × Obj)), PSs (X.suite a pn) (b₀ :: suite) ts) (d1 : (x1 == ("__debug__" : Str)) = false := by decide) (d2 : (x2 == ("__debug__" : Str)) = false := by decide) (d3 : (x3 == ("__debug__" : Str)) = false := by decide)
    (hst : ∀ env, backTo tpos (starEach [.Name x1 np1, .Name x2 np2, .Name x3 np3] env) = (false, eval (.Name x1 np1) env) :: (backTo tpos (starEach [.Name x2 np2, .Name x3 np3] env)) := by intro _; rfl) :
    PS X (.Try body [.ExceptHandler (some (.Tuple [.Name x1 np1, .Name x2 np2, .Name x3 np3] cx tpos)) (some n) (b₀ :: suite) pos'] [] [] pos) (tTry3as X.K X.N.length i c1 c2 c3 tb ts) := by
  refine ⟨fun pins s σ H D I h => ?_⟩
  have ok := I.ok
  have hloc : Loc X.env.scope n := .inl hln
  have hfr : X.A.frames = some (X.env :: X.outer) := by rw [ok.frames, hs]
  refine wpAny_Try_except ?_
  refine wpAny_mono ((hb (wTry3as X.K X.N.length i c1 c2 c3 ts D) (X.pn ++ pins) (fun e s₁ => wpAny (model X.prog X.w) X.A (noteFrame e X.env) (fun _ s₂ => wpAny (model X.prog X.w) X.A (setFlight e none) (fun _ s₃ =>
    wpAny (model X.prog X.w) X.A (handleBy e X.env [.ExceptHandler (some (.Tuple [.Name x1 np1, .Name x2 np2, .Name x3 np3] cx tpos)) (some n) (b₀ :: suite) pos']) (SP X pins D) X.xe s₃) X.xe s₂) X.xe s₁) (fun u s' xx => ?_) PassesOwn.looking).run [] s σ H D (I.toTry _) h) (fun f s1 hsp => ?_) (fun e s1 he => he)
  · obtain ⟨a, B, sI, pins', σ', H', cls, d, rfl, J', nb, up, sky, na, os, ag, hx, w⟩ := xx
    have J : Inv X pins σ' H' sI := J'.ofTry ok
    have sky' : Sky B (X.env :: X.outer) a (Zc cls d) X.env.locals s'.heap := by rw [← hs]; exact sky
    show wpAny (model X.prog X.w) X.A (noteFrame (.ref a) X.env) _ _ _
    refine Sky.land Zc.steady hfr hf sky' fun h3' fl3 up3 => ?_
    have J3 : Inv X pins σ' H' { s' with heap := h3' } := J.landed nb fl3.1 (up.trans up3) os ag
    obtain ⟨oe3, vs3, he3, hz3, hd3⟩ := fl3.there
    have notFr : ∀ {h : Heap} {o : Obj} {vs : Array Value}, h.FunFrames B (X.env :: X.outer) → h.get? a = some o → o.data = .fields vs → a ∉ frs (X.env :: X.outer) := fun {h o vs} ff e dd hm => by
      obtain ⟨_, o', e', hnf⟩ := ff.mem hm
      rw [e] at e'; cases e'
      exact hnf _ dd
    have nfr := notFr fl3.2.2.1 he3 hd3
    have nfrX : a ∉ frs X.stack := by rw [hs]; exact nfr
    have nL : a ≠ X.env.locals := fun z => nfr (List.mem_filterMap.mpr ⟨X.env, List.mem_cons_self, by rw [hf, z]⟩)
    have nF : a ∉ X.fs := fun hm => by
      obtain ⟨e, he, q⟩ := List.mem_filterMap.mp hm
      exact nfr (List.mem_filterMap.mpr ⟨e, List.mem_cons_of_mem _ he, q⟩)
    have nB : B.get? a = none := fl3.2.1
    have nI : ∀ o, sI.heap.get? a = some o → False := fun o e => by
      have z := nb a o e nfrX
      rw [nB] at z; cases z
    have n0 : ∀ o, X.s_0.heap.get? a = some o → a ∈ X.ex := fun o e => Classical.byContradiction fun hx => by
      obtain ⟨o', e'⟩ := J.base.there a o e hx
      exact nI _ e'
    have np : ∀ p ∈ X.pn ++ pins, p.1 ≠ a := fun p hp z => nI p.2 (by rw [← z]; exact (J.pin p hp).1)
    have S3 := J3.suite he3 hd3 na nL nF
    refine wpAny_handleBy_cons (codeAny_handlers_test ?_) (by intro q; cases q)
    -- the tuple of classes
    refine wpAny_Tuple_spliced ?_
    rw [hst]
    refine Calls.spliced_cons (ld_glob (X := X.suite a ((a, oe3) :: (X.pn ++ pins))) S3 h1.1 h1.2 ?_ d1)
    refine Calls.spliced_cons (ld_glob (X := X.suite a ((a, oe3) :: (X.pn ++ pins))) S3 h2.1 h2.2 ?_ d2)
    refine Calls.spliced_cons (ld_glob (X := X.suite a ((a, oe3) :: (X.pn ++ pins))) S3 h3.1 h3.2 ?_ d3)
    refine Calls.spliced_nil ⟨by rw [sizeLine_eq]; simp, ?_⟩
    have kp : ∀ b o, h3'.get? b = some o → (h3'.push { cls := .type "tuple", data := .seq [c1, c2, c3].toArray }).get? b = some o := fun b o e => Heap.get?_push_of_some _ e
    generalize hh5 : h3'.push { cls := .type "tuple", data := .seq [c1, c2, c3].toArray } = h5 at kp ⊢
    have fl5 := flying_keeps fl3 kp
    have up5 : sI.heap.UpToSlots h5 := (up.trans up3).trans (Heap.UpToSlots.of_keeps kp)
    have J5 : Inv X pins σ' H' { s' with heap := h5 } := J.landed nb fl5.1 up5 os ag
    have LT : PySem.W.Looks (model X.prog X.w) h5 (typeOf (.ref a)) cls := fun A Q E s k q => wpAny_typeOf_ref (k _ _ (kp _ _ he3)) (by rw [hz3.1]; exact q)
    have hp5 : h5.get? h3'.objs.size = some { cls := .type "tuple", data := .seq [c1, c2, c3].toArray } := by rw [← hh5]; exact Heap.get?_push_size _ rfl
    have LM := PySem.W.exm_tup3 (M := model X.prog X.w) (J5.kIn) LT hp5 hx
    refine LM.here ?_
    refine codeAny_handlers_suite_as ?_
    refine HandSPX.lands_againZ fl5 fun h4 fl4 up4 => ?_
    have J4 : Inv X pins σ' H' { s' with heap := h4 } := J.landed nb fl4.1 (up5.trans up4) os ag
    obtain ⟨oe4, vs4, he4, hz4, hd4⟩ := fl4.there
    have S4 := inv_suite0 (a := a) (inv_held J4 he4 hd4 na nL n0 np)
    refine store_ok (X := X.suite a (X.pn ++ pins)) (v := .ref a) S4 hN hi hloc rfl (fun s5 S5 => ?_) (.inr hln)
    refine wpAny_mono ((hsu a (X.pn ++ pins)).run [] s5 _ _ _ S5 (w σ' a oe4 vs4 J.len na hz4.1 hz4.2 hd4)) (fun f s6 hsp => ?_) (fun _ _ z => False.elim z)
    have end_ : ∀ {σ6 : L2.St} {H6 : Hp} {Q : Shared → Prop}, Inv (X.suite a (X.pn ++ pins)) [] σ6 H6 s6 → (∀ s7, Inv X pins (σ6.set i none) H6 s7 → Q s7) →
        wpAny (model X.prog X.w) X.A (do bindName X.env n .none; unbindBehindTheSuite X.env n pos') (fun _ s7 => Q s7) X.xe s6 := fun {σ6 H6 Q} S6 hq => gone_ok (inv_unsuite0 S6 ok) hN hi hln hq
    cases f with
    | next =>
      obtain ⟨σ6, H6, S6, q6⟩ := hsp
      exact end_ S6 fun s7 J7 => ⟨_, _, J7, q6⟩
    | brk =>
      obtain ⟨σ6, H6, S6, q6⟩ := hsp
      exact end_ S6 fun s7 J7 => ⟨_, _, J7, q6⟩
    | cont =>
      obtain ⟨σ6, H6, S6, q6⟩ := hsp
      exact end_ S6 fun s7 J7 => ⟨_, _, J7, q6⟩
    | ret u =>
      obtain ⟨v6, σ6, H6, S6, r6, q6⟩ := hsp
      exact end_ S6 fun s7 J7 => ⟨_, _, _, J7, r6, q6⟩
  · cases f with
    | next =>
      obtain ⟨σ', H', J', q⟩ := hsp
      exact wpAny_execs_nil ⟨σ', H', J'.ofTry ok, q⟩
    | brk =>
      obtain ⟨σ', H', J', q⟩ := hsp
      exact ⟨σ', H', J'.ofTry ok, q⟩
    | cont =>
      obtain ⟨σ', H', J', q⟩ := hsp
      exact ⟨σ', H', J'.ofTry ok, q⟩
    | ret u =>
      obtain ⟨v, σ', H', J', r, q⟩ := hsp
      exact ⟨v, σ', H', J'.ofTry ok, r, q⟩
end
def sTry3 (K : PySem.W.Frag) (c1 c2 c3 : Value) (db : QX → DS) (ds : DS) : DS := fun nx rt bk ct δ M => db (fun C _ M' => PySem.W.exmAny K (.ref C) [c1, c2, c3] = some true ∧ ∀ n, ds nx rt bk ct (List.replicate n none) M') nx rt bk ct δ M
instance pu_try3 {K : PySem.W.Frag} {N : Nat} {c1 c2 c3 : Value} {tb : XK → TS} {ts : TS} {db : QX → DS} {ds : DS} [A : ∀ E, PuXS E (tb E) db] [B : PuS ts ds] : PuS (tTry3 K N c1 c2 c3 tb ts) (sTry3 K c1 c2 c3 db ds) := ⟨fun S M σ δ H nx rt bk ct D w e h l =>
  (A _).run S M σ δ H nx rt bk ct D _ w e h l fun C fs S' M' d H' q t w' _ => ⟨q.1, fun σ' hl => B.run S' M' σ' _ H' nx rt bk ct D w' (en_none σ') (q.2 σ'.length) (l.go t)⟩⟩
def sTry3as (K : PySem.W.Frag) (i : Nat) (c1 c2 c3 : Value) (db : QX → DS) (ds : DS) : DS := fun nx rt bk ct δ M => db (fun C fs M' => PySem.W.exmAny K (.ref C) [c1, c2, c3] = some true ∧ ∀ (n : Nat) (a : Addr), M' a = none →
  ds (fun δ' M'' => nx (δ'.set i none) M'') rt (fun δ' M'' => bk (δ'.set i none) M'') (fun δ' M'' => ct (δ'.set i none) M'') ((List.replicate n none).set i (some (.ptr a))) (mset M' a (.xob C fs))) nx rt bk ct δ M
theorem held_xob {S : Addr → Prop} {H : Hp} {a C : Addr} {fs : List (Str × D)} {oe : Obj} {us : Array Value} (na : H a = none) (e1 : oe.cls = .ref C) (e3 : oe.data = .fields us) (x : XF S H oe.dict fs) : Held (fun b => S b ∨ b = a) (upd H a (xObj oe)) a (.xob C fs) := by
  refine ⟨oe, us, upd_same, e1, e3, x.imp id fun ⟨dd, gs, h1, h2, h3, h4, h5⟩ => ?_⟩
  have nd : dd ≠ a := fun z => by rw [z, na] at h3; cases h3
  have f : ∀ b, ¬ S b → H b ≠ none → ¬ (S b ∨ b = a) := fun b n k z => z.elim n fun y => k (by rw [y]; exact na)
  exact ⟨dd, gs, h1, f dd h2 (by rw [h3]; exact fun z => nomatch z), by rw [upd_ne nd]; exact h3, h4, (DtA.set f _ h5).sm (Same.new na)⟩
instance pu_try3as {K : PySem.W.Frag} {N i : Nat} {c1 c2 c3 : Value} {tb : XK → TS} {ts : TS} {db : QX → DS} {ds : DS} [A : ∀ E, PuXS E (tb E) db] [B : PuS ts ds] : PuS (tTry3as K N i c1 c2 c3 tb ts) (sTry3as K i c1 c2 c3 db ds) := ⟨fun S M σ δ H nx rt bk ct D w e h l =>
  (A _).run S M σ δ H nx rt bk ct D _ w e h l fun C fs S' M' d H' q t w' xf => ⟨q.1, fun σ' a oe us hl na e1 e2 e3 => by
    subst e2
    have w2 := w'.mutable na (held_xob na e1 e3 xf)
    have t2 := t.trans (Step.mutable (S := S') (M := M') (mo := .xob C fs) (o := xObj oe) w' na)
    have l2 := l.go t2
    exact B.run _ _ _ _ _ _ _ _ _ _ w2 ((en_none σ').set (.ptr a)) (q.2 σ'.length a (w'.fresh na)) ⟨fun δ2 S2 M2 σ2 H2 p t w e => l2.nx _ S2 M2 _ H2 p t w e.unset, l2.rt, fun δ2 S2 M2 σ2 H2 p t w e => l2.bk _ S2 M2 _ H2 p t w e.unset, fun δ2 S2 M2 σ2 H2 p t w e => l2.ct _ S2 M2 _ H2 p t w e.unset⟩⟩⟩
end V
namespace V
open PySem PySem.Spec PyProof.Rows L2 U StX
section
variable {X : Cx}
def rCntF (K : PySem.W.Frag) : V → List V → Hp → VK → Prop := fun x xs H Q => ∃ (a : Addr) (ys : List V) (y : V), x = V.ref a ∧ xs = [y] ∧ SqL K H a ys ∧ flatV y = true ∧ ys.all flatV = true ∧ Q (.int (ys.countP (fun z => eqV z y) : Nat)) H
theorem cnt_U {x : V} : ∀ {xs : List V} {us : List Value}, Vals xs us → xs.all flatV = true → us.countP (eqU x) = xs.countP fun z => eqV z x
  | _, _, .nil, _ => rfl
  | y :: xs, u :: us, .cons r t, f => by
    rw [List.all_cons, Bool.and_eq_true] at f
    rw [List.countP_cons, List.countP_cons, cnt_U t f.2, eqU_of r f.1]
theorem mt_countF : MtR X "list.count" (rCntF X.K) := by
  intro pins s σ H x xs v us Q I rx rxs h
  obtain ⟨a, ys, y, rfl, rfl, hs, fy, fys, q⟩ := h
  cases rx
  cases rxs with
  | cons ry rt =>
    rename_i uy ut
    cases rt
    obtain ⟨its, rv, ⟨⟨cls, dd, data, sl⟩, n, ho, hc, hdn, hd⟩, hlen⟩ := I.list hs
    simp only at hc hd
    subst hc hd
    refine call_meets PySem.F.slot_list_count ⟨_, ho, rfl⟩ PySem.F.entry_list_count (PySem.F.args_list_count_2 _ _)
      (SeqAt.list_countAt a its.toArray n dd sl uy (eqU y)) ⟨ho, fun u' hu' => mem_eqAt ry fy rv fys u' (by simpa using hu'), ?_⟩
    have ec : its.toArray.toList.countP (eqU y) = ys.countP fun z => eqV z y := cnt_U rv fys
    refine ⟨.int (ys.countP (fun z => eqV z y) : Nat), H, I.tok _, ⟨s.toks, ?_⟩, q⟩
    show Value.int ((its.toArray.toList.countP (eqU y) : Nat) : Int) s.toks = Value.int ((ys.countP (fun z => eqV z y) : Nat) : Int) s.toks
    rw [ec]
end
theorem bools_V {S : Addr → Prop} {H : Hp} : ∀ {vs : List V} {bs : List Bool}, DtA S H vs (bs.map D.bl) → vs = bs.map V.bl
  | [], [], _ => rfl
  | [], _ :: _, h => by cases h
  | _ :: _, [], h => by cases h
  | v :: vs, b :: bs, h => by
    cases h with
    | cons h1 h2 =>
      cases h1
      rw [bools_V h2]
      rfl
theorem bools_flat (bs : List Bool) : (bs.map V.bl).all flatV = true := by
  induction bs with
  | nil => rfl
  | cons b bs ih => rw [List.map_cons, List.all_cons, ih]; rfl
theorem eqV_bl (a b : Bool) : eqV (.bl a) (.bl b) = (a == b) := by cases a <;> cases b <;> rfl
theorem bools_count (bs : List Bool) (c : Bool) : (bs.map V.bl).countP (fun z => eqV z (.bl c)) = bs.count c := by
  induction bs with
  | nil => rfl
  | cons b bs ih => rw [List.map_cons, List.countP_cons, List.count_cons, ih, eqV_bl]
theorem bools_first : ∀ {bs : List Bool} {c : Bool}, c ∈ bs → bs[bs.idxOf c]? = some c ∧ ∀ m b, m < bs.idxOf c → bs[m]? = some b → b ≠ c
  | [], c, h => nomatch h
  | a :: bs, c, h => by
    by_cases e : a = c
    · subst e
      rw [List.idxOf_cons_self]
      exact ⟨rfl, fun m b hm => by omega⟩
    · have hc : c ∈ bs := (List.mem_cons.mp h).resolve_left fun z => e z.symm
      obtain ⟨h1, h2⟩ := bools_first hc
      rw [List.idxOf_cons, show (a == c) = false from beq_eq_false_iff_ne.mpr e]
      refine ⟨h1, fun m b hm hb => ?_⟩
      cases m with
      | zero =>
        cases hb
        exact e
      | succ m => exact h2 m b (by simpa using hm) hb
def dCntB (a : DE) (b : DA) : DE := fun δ M P => a δ M fun x M1 => ∃ bs : List Bool, x = .lst (bs.map D.bl) ∧ b δ M1 fun ys M2 => ∃ c, ys = [.bl c] ∧ P (.int (bs.count c : Nat)) M2
instance pu_cntB {K : PySem.W.Frag} {ta : TE} {tb : TA} {da : DE} {db : DA} [A : PuE ta da] [B : PuA tb db] : PuE (tBM K "list" (rCntF K) ta tb) (dCntB da db) := ⟨fun S M σ δ H P Q w e h k =>
  A.run S M σ δ H _ _ w e h fun d S1 M1 v H1 p1 t1 w1 h1 => by
    obtain ⟨bs, rfl, p1⟩ := p1
    have h1' := h1
    cases h1 with
    | lst n ha hs =>
      rename_i a vs
      refine ⟨.inl ⟨rfl, _, SqL.of ha⟩, B.run S1 M1 σ δ H1 _ _ w1 (e.step w t1) p1 fun d2 S2 M2 v2 H2 p2 t2 w2 h2 => ?_⟩
      obtain ⟨c, rfl, p2⟩ := p2
      have h3 := dt_step w1 t2 _ h1'
      cases h3 with
      | lst n2 ha2 hs2 =>
        have ev := bools_V hs2
        subst ev
        match v2, h2 with
        | [_], .cons (.bl _) .nil => exact ⟨a, _, .bl c, rfl, rfl, SqL.of ha2, rfl, bools_flat bs, by rw [bools_count]; exact k _ S2 M2 _ H2 p2 (t1.trans t2) w2 (.int _)⟩⟩
theorem x_cntB {a : DE} {b : DA} {δ : Dl} {M : Mem} {P : QD} (h : a δ M fun x M1 => ∃ bs : List Bool, x = .lst (bs.map D.bl) ∧ b δ M1 fun ys M2 => ∃ c, ys = [.bl c] ∧ P (.int (bs.count c : Nat)) M2) : dCntB a b δ M P := h
def dIdxB (a : DE) (b : DA) : DE := fun δ M P => a δ M fun x M1 => ∃ bs : List Bool, x = .lst (bs.map D.bl) ∧ b δ M1 fun ys M2 => ∃ c, ys = [.bl c] ∧ c ∈ bs ∧ P (.int (bs.idxOf c : Nat)) M2
instance pu_idxB {K : PySem.W.Frag} {ta : TE} {tb : TA} {da : DE} {db : DA} [A : PuE ta da] [B : PuA tb db] : PuE (tBM K "list" (rIndex K) ta tb) (dIdxB da db) := ⟨fun S M σ δ H P Q w e h k =>
  A.run S M σ δ H _ _ w e h fun d S1 M1 v H1 p1 t1 w1 h1 => by
    obtain ⟨bs, rfl, p1⟩ := p1
    have h1' := h1
    cases h1 with
    | lst n ha hs =>
      rename_i a vs
      refine ⟨.inl ⟨rfl, _, SqL.of ha⟩, B.run S1 M1 σ δ H1 _ _ w1 (e.step w t1) p1 fun d2 S2 M2 v2 H2 p2 t2 w2 h2 => ?_⟩
      obtain ⟨c, rfl, hm, p2⟩ := p2
      have h3 := dt_step w1 t2 _ h1'
      cases h3 with
      | lst n2 ha2 hs2 =>
        have ev := bools_V hs2
        subst ev
        obtain ⟨g1, g2⟩ := bools_first hm
        match v2, h2 with
        | [_], .cons (.bl _) .nil => exact ⟨a, _, .bl c, bs.idxOf c, .bl c, rfl, rfl, SqL.of ha2, rfl, bools_flat bs, by rw [List.getElem?_map, g1]; rfl, by rw [eqV_bl]; exact beq_self_eq_true c, fun m z' hm2 hz => by
            rw [List.getElem?_map] at hz
            obtain ⟨b, hb, rfl⟩ := Option.map_eq_some_iff.mp hz
            rw [eqV_bl]
            exact beq_eq_false_iff_ne.mpr (g2 m b hm2 hb), k _ S2 M2 _ H2 p2 (t1.trans t2) w2 (.int _)⟩⟩
theorem x_idxB {a : DE} {b : DA} {δ : Dl} {M : Mem} {P : QD} (h : a δ M fun x M1 => ∃ bs : List Bool, x = .lst (bs.map D.bl) ∧ b δ M1 fun ys M2 => ∃ c, ys = [.bl c] ∧ c ∈ bs ∧ P (.int (bs.idxOf c : Nat)) M2) : dIdxB a b δ M P := h
/-- what is told of an error -/
def triedX (K : PySem.W.Frag) (c1 c2 c3 : Value) (sp : Sp) (Q : VK) : XK := fun cls d H => PySem.W.exmAny K cls [c1, c2, c3] = some true ∧ ∀ (a : Addr) (oe : Obj) (us : Array Value), H a = none → oe.cls = cls → oe.dict = d → oe.data = .fields us → sp [.ref a] (upd H a (xObj oe)) Q C8.E0
def toldX (Q : VK) (v : V) (H : Hp) : Prop := ∀ p, H p = none → Q (.ref p) (upd H p (.tup [.str (Str.ofString "told"), v]))
def TTtried (K : PySem.W.Frag) (c1 c2 c3 : Value) (sp : Sp) : (XK → Hp → VK → Prop) → Hp → VK → Prop := fun tl H Q => ∀ K2 : VK, (∀ v H', toldX Q v H' → K2 v H') → tl (triedX K c1 c2 c3 sp Q) H K2
theorem roomH_units {k : Nat} {A : Around} (r : L2H.RoomH k A) : A.units + 64 < cLine := by
  have := r.un
  omega
theorem roomH_mark {k : Nat} {A : Around} {h : Option Value} (r : L2H.RoomH k A) : L2H.RoomH k (A.mark h) := ⟨r.dp, r.un⟩
theorem tried_gives {X : Cx} {Ng psr : List Str} {x a q gv ev rf x1 x2 x3 : Str} {sg : Scope} {g fr : Addr} {fdr : FuncData} {cdg c1 c2 c3 : Value} {spr : Sp} {kr j cx cy : Nat} {p1 p2 p3 p4 p5 p6 p7 p8 p9 p10 p11 p12 p13 p14 p15 p16 p17 p18 : Pos}
    (hN : Ng.length = 3) (hnd : Ng.Nodup) (hN1 : Ng[1]? = some gv) (h2 : Ng[2]? = some ev) (hgv : sg.names.lookup gv = some .local) (hv : sg.names.lookup ev = some .local) (hdg : (gv == ("__debug__" : Str)) = false) (hcg : (gv == ("__classdict__" : Str)) = false) (hde : (ev == ("__debug__" : Str)) = false) (hce : (ev == ("__classdict__" : Str)) = false)
    (hg1 : sg.names.lookup x1 = some .globalImplicit) (hg2 : sg.names.lookup x2 = some .globalImplicit) (hg3 : sg.names.lookup x3 = some .globalImplicit) (hgr : sg.names.lookup rf = some .globalImplicit)
    (hm1 : X.mg x1 = some c1) (hm2 : X.mg x2 = some c2) (hm3 : X.mg x3 = some c3) (hmr : X.mg rf = some (.ref fr)) (d1 : (x1 == ("__debug__" : Str)) = false) (d2 : (x2 == ("__debug__" : Str)) = false) (d3 : (x3 == ("__debug__" : Str)) = false) (d4 : (rf == ("__debug__" : Str)) = false)
    (F : FnQ X.prog X.w X.K X.mg X.base kr fr fdr psr spr) (hkr : PySem.W.keepIn X.K (.ref fr) = true) (hbr : Binds X.K fdr psr []) (hr : L2H.RoomH (kr + 1) X.A) (h0 : ∀ f : Addr, (L2.start Ng [V.ref f])[0]? = some (some (V.ref f)))
    (hsw : ∀ env : Env, swapsWith (.Call (.Name a p1) [] [] p2) (some (.Name gv p3)) p4.line env = pure false) :
    LamX.GivesTo X Ng x sg g cdg [.Try [.Assign [.Name gv p3] (.Call (.Name a p1) [] [] p2) p4] [.ExceptHandler (some (.Tuple [.Name x1 p10, .Name x2 p11, .Name x3 p12] cx p13)) (some ev) [.Return (some (.Call (.Name rf p14) [.Name ev p15] [] p16)) p17] p5] [] [] p6, .Return (some (.Tuple [.Constant (.str (Str.ofString "told")) j p7, .Name gv p8] cy p18)) p9] a q (TTtried X.K c1 c2 c3 spr) := by
  intro f c' s H Q tl act hc h
  refine ⟨_, pss_cons (ps_try3as (i := 2) (X := (cxOf C8.CX0 X.prog X.w X.K X.mg X.base Ng x sg g cdg X.A X.stack s H C8.E0).nox)
      (tb := fun E D σ H => ∃ Ech : XK, (∀ cls d H', Ech cls d H' → E cls d H') ∧ σ[0]? = some (some (.ref f)) ∧ H c' = some (LamX.CodeO c' q) ∧ tl Ech H fun v H' => D.nx (σ.set 1 (some v)) H')
      rfl rfl hnd h2 hv ⟨hg1, hm1⟩ ⟨hg2, hm2⟩ ⟨hg3, hm3⟩ (fun E pn xe tk _ => ?_) (fun a0 pn => pss_one (ps_ret (pe_callQ (X := Cx.suite (cxOf C8.CX0 X.prog X.w X.K X.mg X.base Ng x sg g cdg X.A X.stack s H C8.E0).nox a0 pn) F (roomH_mark (L2H.RoomH.deeper hr _)) hgr hmr hkr hbr
        (pa_cons (pe_var (i := 2) h2 (.inl hv) hde hce) pa_nil) d4))) d1 d2 d3 (fun _ => rfl)) (pss_one (ps_ret (pe_tup (pa_cons pe_str (pa_cons (pe_var (i := 1) hN1 (.inl hgv) hdg hcg) pa_nil))))), ?_⟩
  · refine ⟨fun pins s' σ H' D I h' => ?_⟩
    obtain ⟨Ech, hW, h1, h2', h3⟩ := h'
    have hp := act (fun cls d _ H => E cls d H) pn xe Ech p1 p2 tk (fun cls d _ H e => hW cls d H e)
    have hq := pss_one (ps_set (i := 1) (X := (cxOf C8.CX0 X.prog X.w X.K X.mg X.base Ng x sg g cdg X.A X.stack s H C8.E0).tr pn xe) (pos := p4) (pos' := p3) hnd hN1 (.inl hgv) hp (hsw _) (.inr hgv))
    exact hq.run pins s' σ H' D I ⟨h1, h2', h3⟩
  · refine ⟨triedX X.K c1 c2 c3 spr Q, fun cls d H' hx => ?_, h0 f, hc, ?_⟩
    · obtain ⟨ha, hx⟩ := hx
      refine ⟨ha, fun σ a oe us hl na e1 e2 e3 => ?_⟩
      have hl : σ.length = 3 := by rw [hl]; exact hN
      exact ⟨_, List.getElem?_set_self (by omega), hx a oe us na e1 e2 e3⟩
    · refine h _ fun v H' hg => ?_
      have hl : (L2.start Ng [V.ref f]).length = 3 := by unfold L2.start; simp; omega
      exact ⟨v, List.getElem?_set_self (by omega), by rw [sizeLine_eq]; simp, fun p hp => hg p hp⟩
/-- over data -/
def triedQ (K : PySem.W.Frag) (c1 c2 c3 : Value) (sd : DC) (R : QD) : QX := fun C fs M => PySem.W.exmAny K (.ref C) [c1, c2, c3] = some true ∧ ∀ a, M a = none → sd [.ptr a] (mset M a (.xob C fs)) fun d M' => ∃ M0, Mle M0 M' ∧ R d M0
def dLamT (P : Addr) (q : Str) (K : PySem.W.Frag) (c1 c2 c3 : Value) (sd : DC) (dt : QX → DE) : DE := fun δ M R => M P = some (.tab q) ∧ dt (triedQ K c1 c2 c3 sd R) δ M fun d M' => R (.tup [.str (Str.ofString "told"), d]) M'
instance pu_lamT {P : Addr} {q : Str} {K : PySem.W.Frag} {c1 c2 c3 : Value} {sd : DC} {t : XK → TE} {dt : QX → DE} [A : ∀ E, PuXE E (t E) dt] : PuE (tLamP P q (TTtried K c1 c2 c3 (lift sd)) t) (dLamT P q K c1 c2 c3 sd dt) := ⟨fun S M σ δ H R Q w e h k => by
  obtain ⟨hm, h⟩ := h
  obtain ⟨ps, hP, ht, ha⟩ := (w.mem P _ hm).2
  refine ⟨⟨ps, hP, ht, fun pos cv hc => let ⟨c, a1, a2, _⟩ := ha pos cv hc; ⟨c, a1, a2⟩⟩, fun H1 l K2 hK => ?_⟩
  obtain ⟨w1, t1⟩ := lam_to w hm l
  refine (A _).run S M σ δ H1 _ (triedQ K c1 c2 c3 sd R) _ w1 (e.step w t1) h (fun d S2 M2 v H2 r t2 w2 hd => hK _ _ fun p np => ?_) (fun C fs S2 M2 d H2 r t2 w2 xf => ?_)
  · exact k _ _ _ _ _ r ((t1.trans t2).trans (.new np)) (w2.new np) (.tup (w2.ns np) upd_same ((DtA.cons (.str _) (.cons hd .nil)).sm (Same.new np)))
  · refine ⟨r.1, fun a oe us na e1 e2 e3 => ?_⟩
    subst e2
    have w3 := w2.mutable na (held_xob na e1 e3 xf)
    have t3 := (t1.trans t2).trans (Step.mutable (S := S2) (M := M2) (mo := .xob C fs) (o := xObj oe) w2 na)
    exact ⟨_, _, _, _, w3, .cons (.ptr a) .nil, r.2 a (w2.fresh na), fun d' S' M' v' H' ⟨M0, l0, r0⟩ t' w' hv => k d' S' M0 v' H' r0 ((t3.trans t').less l0) (w'.drop l0) hv⟩⟩
theorem x_lamT {P : Addr} {q : Str} {K : PySem.W.Frag} {c1 c2 c3 : Value} {sd : DC} {dt : QX → DE} {δ : Dl} {M : Mem} {R : QD} (hm : M P = some (.tab q)) (h : dt (triedQ K c1 c2 c3 sd R) δ M fun d M' => R (.tup [.str (Str.ofString "told"), d]) M') : dLamT P q K c1 c2 c3 sd dt δ M R := ⟨hm, h⟩
end V
namespace V
open PySem PySem.Spec PyProof.Rows L2 U StX
section
variable {X : Cx} {n : Nat} {f : Addr} {fd : FuncData} {ps : List Str} {C : Addr} {sp : Sp}
/-- repr(x) by an own __repr__ -/
def rReprO (C : Addr) (sp : Sp) : List V → Hp → VK → Prop := fun xs H Q => ∃ (a : Addr) (dx : Addr) (fs : List (Str × V)), xs = [.ref a] ∧ H a = some (.ins C dx fs) ∧ sp [.ref a] H (fun v H' => ∃ z : Str, v = .str z ∧ Q (.str z) H') L2.E0
theorem call_reprO (hb : Binds X.K fd ps []) (F : FnOk X.prog X.w X.K X.mg X.base L2.CX0 n f fd ps sp) (hr : Room (n + 1) X.A) (hs : PySem.W.findIn X.K (.ref C) "__repr__" = some (some (.ref f))) (hf : PySem.W.isFn X.K (.ref f) = true) : CallR X (.builtin "repr") (rReprO C sp) := by
  intro pins s σ H xs us Q I r h
  obtain ⟨a, dx, fs, rfl, ha, hsp⟩ := h
  match us, r with
  | [u], .cons ru .nil =>
    cases ru
    obtain ⟨mA, J, _⟩ := ins_get I.hok ha
    obtain ⟨od, J, _⟩ := J.look
    obtain ⟨m, hF⟩ := I.fr
    have sb : Sub X n X.A.in1 := ⟨hr.in1, rfl⟩
    refine PySem.W.repr_K hr.in1.units0 hF I.ok.mod.kin J hs hf ?_
    have e0 : Env0 X.prog X.w X.K X.mg X.base X.A.in1 X.stack s H := by
      have e := I.env0
      exact ⟨by rw [sb.fr]; exact e.frames, e.mod, e.bs, e.bsz, e.funs, e.frf, e.hok, e.bare⟩
    have hl := F.len _ _ _ _ hsp
    have r2 : Vals [V.ref a] [Value.ref a] := .cons rfl .nil
    refine wpAny_call (codeAny_mono (F.run X.A.in1 X.stack s H ⟨[.ref a], []⟩ [.ref a] [.ref a] _ L2.E0 sb.room e0 (by
      have := hb s [.ref a] I.kIn (by simpa using hl)
      simpa using this) r2 hsp) fun r s' hq => ?_)
    cases r with
    | error e => exact L2.pass0 pins σ H s e s' I hq
    | ok fl =>
      cases fl with
      | ret w =>
        obtain ⟨z, H', I', rz, k, ez, q⟩ := I.after hq
        subst ez
        obtain ⟨t, rfl⟩ := rz
        exact ⟨.str k, H', I', ⟨_, rfl⟩, q⟩
      | next => exact False.elim hq
      | brk => exact False.elim hq
      | cont => exact False.elim hq
end
def rReprO1 (C : Addr) (sp : DC) : DC := fun ds M P => ∃ d ns xs, ds = [d] ∧ isIn M d C ns xs ∧ sp [d] M fun e M' => ∃ z : Str, e = .str z ∧ P (.str z) M'
instance cb_reprO {C : Addr} {sp : DC} : CbD (rReprO C (lift sp)) (rReprO1 C sp) := ⟨fun S M H vs ds P Q w hv h k => by
  obtain ⟨d, ns, xs, rfl, hm, q⟩ := h
  match vs, hv with
  | [v], .cons h1 .nil =>
    obtain ⟨a, dx, fs', rfl, ha, _, _⟩ := in_get w h1 hm
    refine ⟨a, dx, fs', rfl, ha, S, M, [d], _, w, .cons h1 .nil, q, fun d S' M' v' H' e st w' hd => ?_⟩
    obtain ⟨z, rfl, pp⟩ := e
    cases hd
    exact ⟨z, rfl, k _ S' M' _ H' pp st w' (.str z)⟩⟩
section
variable {X : Cx} {pins : List (Addr × Obj)} {σ : L2.St} {H : Hp} {s : Shared} {n : Nat} {f : Addr} {fd : FuncData} {ps : List Str} {sp : Sp} {a C : Addr} {y : V} {v : Value} {Q : VK}
inductive Oth2 (C : Addr) (H : Hp) : V → Value → Prop
  | of {y : V} {t : Value} : Oth C H y t → Oth2 C H y t
  | int (i : Int) : Oth2 C H (.int i) (.type "int")
  | lst {b : Addr} {xs : List V} : H b = some (.lst xs) → Oth2 C H (.ref b) (.type "list")
structure NoSub2 (K : PySem.W.Frag) (C : Addr) : Prop where
  no : NoSub K C
  int : PySem.W.subIn K (.type "int") (.ref C) = some false
  lst : PySem.W.subIn K (.type "list") (.ref C) = some false
def rEqOwn2 (C : Addr) (sp : Sp) : R2 := fun x y H Q => ∃ a dx fs tb, x = V.ref a ∧ H a = some (.ins C dx fs) ∧ Oth2 C H y tb ∧ sp [.ref a, y] H (fun v H' => ∃ t, v = V.bl t ∧ Q (.bl t) H') L2.E0
end
def othD (C : Addr) (y : D) : Prop := y = .non ∨ (∃ z, y = .str z) ∨ (∃ i, y = .int i) ∨ (∃ ys, y = .tup ys) ∨ (∃ ys, y = .lst ys) ∨ ∃ n2 x2, y = .ins C n2 x2
def rEqOwnD2 (C : Addr) (sp : DC) : DR := fun x y M P => ∃ n1 x1, x = .ins C n1 x1 ∧ othD C y ∧ sp [x, y] M fun d M' => ∃ t, d = .bl t ∧ P (.bl t) M'
instance op_eqOwnD2 {C : Addr} {sp : DC} : OpD (rEqOwn2 C (lift sp)) (rEqOwnD2 C sp) := ⟨fun S M H x y dx dy P Q w hx hy h k => by
  obtain ⟨n1, x1, rfl, hyk, h⟩ := h
  have gx := hx
  have gy := hy
  have fin : ∀ {a : Addr}, Dt S H (.ref a) (.ins C n1 x1) → lift sp [.ref a, y] H (fun v H' => ∃ t, v = V.bl t ∧ Q (.bl t) H') L2.E0 := fun {a} ha => ⟨S, M, _, _, w, .cons ha (.cons gy .nil), h, fun d S' M' v H' p t w' hv => by
    obtain ⟨b, rfl, p⟩ := p
    cases hv
    exact ⟨b, rfl, k _ S' M' _ H' p t w' (.bl _)⟩⟩
  cases hx with
  | ins _ ha _ _ =>
    rcases hyk with rfl | ⟨z, rfl⟩ | ⟨i, rfl⟩ | ⟨ys, rfl⟩ | ⟨ys, rfl⟩ | ⟨n2, x2, rfl⟩
    · cases hy
      exact ⟨_, _, _, _, rfl, ha, .of .non, fin gx⟩
    · cases hy
      exact ⟨_, _, _, _, rfl, ha, .of (.str z), fin gx⟩
    · cases hy
      exact ⟨_, _, _, _, rfl, ha, .int i, fin gx⟩
    · cases hy with
      | tup _ hb _ => exact ⟨_, _, _, _, rfl, ha, .of (.tup hb), fin gx⟩
    · cases hy with
      | lst _ hb _ => exact ⟨_, _, _, _, rfl, ha, .lst hb, fin gx⟩
    · cases hy with
      | ins _ hb _ _ => exact ⟨_, _, _, _, rfl, ha, .of (.ins hb), fin gx⟩⟩
instance (priority := low) pu_makeF10n {n : Nat} {E : XK} {C : Addr} {sp : DC} {tk : TA} {dk : DA} [B : PuA tk dk] : PuE (tMakeK C 0 n (liftF sp) (fun us ws => us ++ pk1_0 ws) E tNil tk) (dMakeK (rMakeF C sp) d10 n dk) := ⟨fun S M σ δ H P Q w e h k =>
  B.run S M σ δ H _ _ w e h fun es S2 M2 zs H2 p2 t2 w2 h2 => ⟨rfl, by rw [h2.length]; exact p2.1, fun x dx nx nd ne => makeF_go w2 (pk1_0_dt h2) p2.2 (k.go t2) nx nd ne⟩⟩
end V
namespace V
end V
namespace V.XA
open PySem PySem.Spec PySem.W PySem.Calls PyProof.Rows PySem.HandSPX Builtin Builtin.ObjectAttr
end V.XA
namespace V
open PySem PySem.Spec PyProof.Rows L2 U StX
section
variable {X : Cx} {x f : Str} {C fI : Addr} {k : Nat} {fd : FuncData} {ps : List Str} {sp : Sp} {ds : List Value} {dvs : List V} {p pos pos' : Pos} {e : Expr} {es : List Expr} {ta : TA} {te : TE} {B newId initId : String} {tl : List Value} {E : XK}
def tRaise0 (E : XK) (C : Addr) : TS := fun _ _ H => E (.ref C) none H
end
def sRaise0 (C : Addr) (q : QX) : DS := fun _ _ _ _ _ M => q C [] M
instance pux_raise0 {E : XK} {C : Addr} : PuXS E (tRaise0 E C) (fun q => sRaise0 C q) := ⟨fun S M σ δ H nx rt bk ct D q w e h l x => x C [] S M none H h .refl w (.inl ⟨rfl, rfl⟩)⟩
end V
namespace V
open PySem PySem.Spec PyProof.Rows L2 U StX
def dMethX (C : Addr) (m : Str) (sp : DCX) (q : QX) (a : DE) (b : DA) : DE := fun δ M P => a δ M fun x M1 => (∃ ns xs, isIn M1 x C ns xs ∧ m ∉ ns) ∧ b δ M1 fun ds M2 => sp (x :: ds) M2 P q
instance pux_meth {E : XK} {C : Addr} {m : Str} {sp : DCX} {ta : TE} {t : TA} {da : DE} {dt : DA} [A : PuE ta da] [B : PuA t dt] : PuXE E (tMeth C m (liftX sp) [] E ta t) (fun q => dMethX C m sp q da dt) := ⟨fun S M σ δ H P q Q w e h k x =>
  A.run S M σ δ H _ _ w e h fun d S1 M1 v H1 p1 t1 w1 h1 => by
    obtain ⟨⟨ns, xs, hi, hm⟩, p1⟩ := p1
    obtain ⟨a, dx, fs, rfl, ha, hn, hs⟩ := in_get w1 h1 hi
    refine ⟨a, dx, fs, rfl, ha, lookup_none (by rw [hn]; exact hm), B.run S1 M1 σ δ H1 _ _ w1 (e.step w t1) p1 fun ds S2 M2 vs H2 p2 t2 w2 h2 => ?_⟩
    rw [List.append_nil]
    exact ⟨S2, M2, d :: ds, P, q, w2, .cons (dt_step w1 t2 _ h1) h2, p2, k.go (t1.trans t2), x.go (t1.trans t2)⟩⟩
end V
namespace V.BO
open PySem PySem.Spec PySem.W PySem.Calls PyProof.Rows
end V.BO
namespace V
open PySem PySem.Spec PyProof.Rows L2 U StX
section
variable {X : Cx} {n : Nat} {f : Addr} {fd : FuncData} {ps : List Str} {C : Addr} {sp : Sp}
def rBoolO (C : Addr) (sp : Sp) : List V → Hp → VK → Prop := fun xs H Q => ∃ (a : Addr) (dx : Addr) (fs : List (Str × V)), xs = [.ref a] ∧ H a = some (.ins C dx fs) ∧ sp [.ref a] H (fun v H' => ∃ m : Int, v = .int m ∧ 0 ≤ m ∧ m < 2 ^ 63 ∧ Q (.bl (m != 0)) H') L2.E0
end
def rBoolO1 (C : Addr) (sp : DC) : DC := fun ds M P => ∃ d ns xs, ds = [d] ∧ isIn M d C ns xs ∧ sp [d] M fun e M' => ∃ m : Int, e = .int m ∧ 0 ≤ m ∧ m < 2 ^ 63 ∧ P (.bl (m != 0)) M'
instance cb_boolO {C : Addr} {sp : DC} : CbD (rBoolO C (lift sp)) (rBoolO1 C sp) := ⟨fun S M H vs ds P Q w hv h k => by
  obtain ⟨d, ns, xs, rfl, hm, q⟩ := h
  match vs, hv with
  | [v], .cons h1 .nil =>
    obtain ⟨a, dx, fs', rfl, ha, _, _⟩ := in_get w h1 hm
    refine ⟨a, dx, fs', rfl, ha, S, M, [d], _, w, .cons h1 .nil, q, fun d S' M' v' H' e st w' hd => ?_⟩
    obtain ⟨m, rfl, k0, k1, pp⟩ := e
    cases hd
    exact ⟨m, rfl, k0, k1, k _ S' M' _ H' pp st w' (.bl _)⟩⟩
end V
namespace V
open PySem PySem.Spec PyProof.Rows L2 U StX
def IsR (K : PySem.W.Frag) (d : D) (p : PyData) : Prop := ∀ (S : Addr → Prop) (H : Hp) (v : V), Dt S H v d → Dq K H v p
def IsRs (K : PySem.W.Frag) (ds : List D) (ps : List PyData) : Prop := ∀ (S : Addr → Prop) (H : Hp) (vs : List V), DtA S H vs ds → DqAll K H vs ps
structure OkR (K : PySem.W.Frag) (W k : Nat) (d : D) (p : PyData) : Prop where
  is : IsR K d p
  ok : PyQ W k p
structure OkRs (K : PySem.W.Frag) (W k : Nat) (ds : List D) (ps : List PyData) : Prop where
  is : IsRs K ds ps
  ok : PysQ W k ps
section
variable {K : PySem.W.Frag} {W W' k k' : Nat} {d : D} {p : PyData} {ds : List D} {ps : List PyData}
theorem OkR.of (q : IsQ d p) (h : PyQ W k p) : OkR K W k d p := ⟨fun _ _ _ hd => isQ_dq q hd, h⟩
theorem okQ.r (h : okQ W k d) : ∃ p, OkR K W k d p := let ⟨p, q, e⟩ := h; ⟨p, .of q e⟩
theorem OkR.mono (h : OkR K W k d p) (hw : W ≤ W') (hk : k ≤ k') : OkR K W' k' d p := ⟨h.is, h.ok.lv, h.ok.sh, Nat.le_trans h.ok.dep hk, Nat.le_trans h.ok.wt hw⟩
theorem OkRs.nil (W k : Nat) : OkRs K W k [] [] := ⟨fun _ _ _ h => by cases h; exact .nil, rfl, rfl, Nat.zero_le _, Nat.zero_le _⟩
theorem OkRs.cons : OkR K W k d p → OkRs K W' k ds ps → OkRs K (W + 1 + W') k (d :: ds) (p :: ps) := fun ⟨e, a⟩ ⟨e2, b⟩ => by
  obtain ⟨a1, a2, a3, a4⟩ := a
  obtain ⟨b1, b2, b3, b4⟩ := b
  refine ⟨fun S H vs h => ?_, ?_, ?_, ?_, ?_⟩
  · cases h with
    | cons h1 h2 => exact .cons (e _ _ _ h1) (e2 _ _ _ h2)
  · rw [PyData.leavesShortAll, a1, b1]; rfl
  · rw [PyData.showableAll, a2, b2]; rfl
  · rw [PyData.depthAll]; omega
  · rw [PyData.weightAll]; omega
theorem OkRs.list (h : OkRs K W k ds ps) : OkR K W (k + 1) (.lst ds) (.list ps) := ⟨fun S H v hd => by
  cases hd with
  | lst n ha hs => exact .lst (SqL.of ha) (h.is _ _ _ hs), by rw [PyData.leavesShort]; exact h.ok.lv, by rw [PyData.showable]; exact h.ok.sh, by rw [PyData.depth]; have := h.ok.dep; omega, by rw [PyData.weight]; exact h.ok.wt⟩
theorem OkRs.tuple (h : OkRs K W k ds ps) : OkR K W (k + 1) (.tup ds) (.tuple ps) := ⟨fun S H v hd => by
  cases hd with
  | tup n ha hs => exact .tup (SqT.of ha) (h.is _ _ _ hs), by rw [PyData.leavesShort]; exact h.ok.lv, by rw [PyData.showable]; exact h.ok.sh, by rw [PyData.depth]; have := h.ok.dep; omega, by rw [PyData.weight]; exact h.ok.wt⟩
theorem OkR.str {z : Str} {n : Nat} (h : ∀ c ∈ cd z, c < 0x110000) (hn : (cd z).length ≤ n) : OkR K n 0 (.str z) (.str z) := by
  obtain ⟨p, e, a⟩ := okQ.str h hn
  cases e
  exact .of (.str z) a
theorem OkR.int {i : Int} {b : Nat} (h : i.natAbs < 2 ^ b) (h0 : 0 < b := by decide) (hb : b ≤ 900 := by decide) : OkR K b 0 (.int i) (.int i) := by
  obtain ⟨p, e, a⟩ := okQ.int h h0 hb
  cases e
  exact .of (.int i) a
theorem OkR.bl (b : Bool) : OkR K 0 0 (.bl b) (.bool b) := by
  obtain ⟨p, e, a⟩ := okQ.bl b
  cases e
  exact .of (.bl b) a
theorem OkR.non : OkR K 0 0 .non .none := by
  obtain ⟨p, e, a⟩ := okQ.non
  cases e
  exact .of .non a
end
def rReprR1 (K : PySem.W.Frag) : DC := fun ds M P => ∃ d p, ds = [d] ∧ IsR K d p ∧ M sysModules = some .sys ∧ PyData.showable p = true ∧ PyData.depth p ≤ 40 ∧ (PyData.shown p).length ≤ sizeLine ∧ P (.str (PyData.shown p)) M
instance (priority := high) cb_reprR {K : PySem.W.Frag} : CbD (rReprQ K) (rReprR1 K) := ⟨fun S M H vs ds P Q w hv h k => by
  obtain ⟨d, p, rfl, e, hm, h1, h3, h4, q⟩ := h
  have hsys : SysK H := (w.mem _ _ hm).2
  match vs, hv with
  | [v], .cons h0 .nil => exact ⟨v, p, rfl, e _ _ _ h0, h1, hsys, h3, h4, k _ S M _ H q .refl w (.str _)⟩⟩
/-- repr of a datum whose shown text is known -/
theorem reprR {K : PySem.W.Frag} {d : D} {p : PyData} {W k : Nat} {M : Mem} {R : QD} (o : OkR K W k d p) (hm : M sysModules = some .sys) (q : R (.str (PyData.shown p)) M) (hk : k ≤ 40 := by decide) (hW : W ≤ 16000 := by decide) : rReprR1 K [d] M R := by
  obtain ⟨e, ho⟩ := o
  have hl : (PyData.shown p).length ≤ sizeLine := by
    have h := PyData.shown_le 1000 (by decide) p ho.lv
    have h2 : (1000 + 2) * PyData.weight p ≤ 1002 * 16000 := Nat.mul_le_mul (by decide) (Nat.le_trans ho.wt hW)
    rw [sizeLine_eq]
    omega
  exact ⟨d, p, rfl, e, hm, ho.sh, Nat.le_trans ho.dep hk, hl, q⟩
end V
namespace V
open PySem PySem.Spec PyProof.Rows L2 U StX
def dFmtR (a : DE) : DE := fun δ M P => a δ M fun x M1 => match x with
  | .str y => (reprText y).length ≤ sizeLine ∧ P (.str (reprText y)) M1
  | .int i => i.natAbs.log2 < 1920 ∧ P (.str (Str.ofString (toString i))) M1
  | _ => False
instance pu_fmtR {ta : TE} {da : DE} [A : PuE ta da] : PuE (tFmtR ta) (dFmtR da) := ⟨fun S M σ δ H P Q w e h k =>
  A.run S M σ δ H _ _ w e h fun d S1 M1 v H1 p1 t1 w1 h1 => by
    split at p1
    · cases h1
      exact .inl ⟨_, rfl, p1.1, k _ S1 M1 _ H1 p1.2 t1 w1 (.str _)⟩
    · cases h1
      exact .inr ⟨_, rfl, p1.1, k _ S1 M1 _ H1 p1.2 t1 w1 (.str _)⟩
    · exact p1.elim⟩
section
variable {X : Cx} {C : Addr}
/-- bool(x) of an instance that has neither a __bool__ nor a __len__ -/
def rBoolP (C : Addr) : List V → Hp → VK → Prop := fun xs H Q => ∃ (a : Addr) (dx : Addr) (fs : List (Str × V)), xs = [.ref a] ∧ H a = some (.ins C dx fs) ∧ Q (.bl true) H
def rBoolP1 (C : Addr) : DC := fun ds M P => ∃ d ns xs, ds = [d] ∧ isIn M d C ns xs ∧ P (.bl true) M
instance cb_boolP {C : Addr} : CbD (rBoolP C) (rBoolP1 C) := ⟨fun S M H vs ds P Q w hv h k => by
  obtain ⟨d, ns, xs, rfl, hm, q⟩ := h
  match vs, hv with
  | [v], .cons h1 .nil =>
    obtain ⟨a, dx, fs', rfl, ha, _, _⟩ := in_get w h1 hm
    exact ⟨a, dx, fs', rfl, ha, k _ S M _ H q .refl w (.bl _)⟩⟩
end
instance (priority := low) pu_makeF3210n {n : Nat} {E : XK} {C : Addr} {sp : DC} {tk : TA} {dk : DA} [B : PuA tk dk] : PuE (tMakeK C 0 n (liftF sp) (fun us ws => us ++ pk3_2_1_0 ws) E tNil tk) (dMakeK (rMakeF C sp) d3210 n dk) := ⟨fun S M σ δ H P Q w e h k =>
  B.run S M σ δ H _ _ w e h fun es S2 M2 zs H2 p2 t2 w2 h2 => ⟨rfl, by rw [h2.length]; exact p2.1, fun x dx nx nd ne => makeF_go w2 (pk3_2_1_0_dt h2) p2.2 (k.go t2) nx nd ne⟩⟩
end V
namespace V
open PySem PySem.Spec PyProof.Rows L2 U StX
section
variable {P : Program} {w : World} {K : PySem.W.Frag} {mg : Str → Option Value} {base : Heap} {k : Nat} {f : Addr} {fd : FuncData} {ps : List Str}
theorem fn_toX {a : DC} (F : FnOk P w K mg base L2.CX0 k f fd ps (lift a)) : FnOk P w K mg base (L2.CX P w) k f fd ps (liftX fun ds M R _ => a ds M R) := by
  have g : ∀ vs H Q E, liftX (fun ds M R _ => a ds M R) vs H Q E → lift a vs H Q E := by
    rintro vs H Q E ⟨S, M, ds, R, q, w, h, p, k, _⟩
    exact ⟨S, M, ds, R, w, h, p, k⟩
  refine ⟨fun vs H Q E q => F.len vs H Q E (g vs H Q E q), fun A outer s H args us vs Q E hr e0 hb r hsp => codeAny_mono (F.run A outer s H args us vs Q E hr e0 hb r (g vs H Q E hsp)) fun r s' hq => ?_⟩
  cases r with
  | error e => exact (show False from hq).elim
  | ok fl => cases fl <;> exact hq
theorem fn_orXX {CX : CXT} {a b : DCX} (F : FnOk P w K mg base CX k f fd ps (liftX a)) (G : FnOk P w K mg base CX k f fd ps (liftX b)) : FnOk P w K mg base CX k f fd ps (liftX fun ds M R q => a ds M R q ∨ b ds M R q) := by
  have split : ∀ vs H Q E, liftX (fun ds M R q => a ds M R q ∨ b ds M R q) vs H Q E → liftX a vs H Q E ∨ liftX b vs H Q E := by
    rintro vs H Q E ⟨S, M, ds, R, q, w, h, p | p, k, x⟩
    · exact .inl ⟨S, M, ds, R, q, w, h, p, k, x⟩
    · exact .inr ⟨S, M, ds, R, q, w, h, p, k, x⟩
  exact ⟨fun vs H Q E q => (split vs H Q E q).elim (F.len vs H Q E) (G.len vs H Q E), fun A outer s H args us vs Q E hr e0 hb r hsp => (split vs H Q E hsp).elim (F.run A outer s H args us vs Q E hr e0 hb r) (G.run A outer s H args us vs Q E hr e0 hb r)⟩
end
end V
namespace V
open PySem PySem.Spec PyProof.Rows L2 U StX
def dgL (n : Nat) (g : DGs) : DG := fun d δ M P => ∃ xs, d = .lst xs ∧ xs.length = n ∧ g xs δ M P
instance pu_gLst {K : PySem.W.Frag} {n : Nat} {gs : TGs} {dgs : DGs} {s : List Nat} [A : PuGs gs dgs s] : PuG (gLst K n gs) (dgL n dgs) s := ⟨fun S M σ δ H v d P R w e h p k => by
  obtain ⟨xs, rfl, hl, p⟩ := p
  cases h with
  | lst n ha hs => exact ⟨_, _, rfl, SqL.of ha, by rw [hs.length]; exact hl, A.run S M σ δ H _ xs P R w e hs p k⟩⟩
end V
namespace V
open PySem PySem.Spec PyProof.Rows L2 U StX
def rNinS : R2 := fun x y H Q => ∃ i j, x = .str i ∧ y = .str j ∧ Q (.bl (!(!(Builtin.Str.occurrences j i 0 j.length 1).isEmpty))) H
def foundS (i j : Str) : Bool := !(Builtin.Str.occurrences j i 0 j.length 1).isEmpty
def rNinSD : DR := fun x y M P => ∃ i j, x = .str i ∧ y = .str j ∧ P (.bl (!foundS i j)) M
instance op_ninSD : OpD rNinS rNinSD := ⟨fun S M H x y dx dy P Q w hx hy h k => by
  obtain ⟨i, j, rfl, rfl, q⟩ := h
  cases hx
  cases hy
  exact ⟨i, j, rfl, rfl, k _ S M _ H q .refl w (.bl _)⟩⟩
end V
namespace V
open PySem PySem.Spec PyProof.Rows L2 U StX
def liftK (sp : DC) : List V → List V → Hp → VK → XK → Prop := fun vs kvs H Q E => ∃ x rest u, vs = x :: rest ∧ kvs = [u] ∧ rest.length ≤ sizeLine ∧ ∀ p, H p = none → lift sp [x, u, V.ref p] (upd H p (.tup rest)) Q E
/-- o.m(.., b = ..) -/
def tMethK (C : Addr) (m : Str) (sp : List V → List V → Hp → VK → XK → Prop) (E : XK) (ta : TE) (t tk : TA) : TE := fun σ H Q => ta σ H fun x H1 => ∃ a dx fs, x = .ref a ∧ H1 a = some (.ins C dx fs) ∧ fs.lookup m = none ∧
  t σ H1 fun vs H2 => tk σ H2 fun kvs H3 => vs.length ≤ 1000 ∧ kvs.length ≤ 1000 ∧ sp (x :: vs) kvs H3 Q E
/-- over data: the values left over are a tuple -/
def dMethK (C : Addr) (m : Str) (sp : DC) (a : DE) (t tk : DA) : DE := fun δ M P => a δ M fun x M1 => (∃ ns xs, isIn M1 x C ns xs ∧ m ∉ ns) ∧ t δ M1 fun ds M2 => tk δ M2 fun es M3 => ds.length ≤ 1000 ∧ ∃ u, es = [u] ∧ sp [x, u, .tup ds] M3 P
instance pu_methK {E : XK} {C : Addr} {m : Str} {sp : DC} {ta : TE} {t tk : TA} {da : DE} {dt dk : DA} [A : PuE ta da] [B : PuA t dt] [G : PuA tk dk] : PuE (tMethK C m (liftK sp) E ta t tk) (dMethK C m sp da dt dk) := ⟨fun S M σ δ H P Q w e h k =>
  A.run S M σ δ H _ _ w e h fun d S1 M1 v H1 p1 t1 w1 h1 => by
    obtain ⟨⟨ns, xs, hi, hm⟩, p1⟩ := p1
    obtain ⟨a, dx, fs, rfl, ha, hn, hs⟩ := in_get w1 h1 hi
    refine ⟨a, dx, fs, rfl, ha, lookup_none (by rw [hn]; exact hm), B.run S1 M1 σ δ H1 _ _ w1 (e.step w t1) p1 fun ds S2 M2 vs H2 p2 t2 w2 h2 => ?_⟩
    refine G.run S2 M2 σ δ H2 _ _ w2 (e.step w (t1.trans t2)) p2 fun es S3 M3 zs H3 p3 t3 w3 h3 => ?_
    obtain ⟨hl, u, rfl, q⟩ := p3
    match zs, h3 with
    | [zu], .cons hu .nil =>
      have h23 := dtA_step w2 t3 _ h2
      have h13 := dt_step w1 (t2.trans t3) _ h1
      refine ⟨by rw [h2.length]; exact hl, by simp, _, vs, zu, rfl, rfl, by rw [h2.length, sizeLine_eq]; omega, fun p hp => ?_⟩
      have t4 : Step S3 M3 H3 S3 M3 (upd H3 p (.tup vs)) := .new hp
      have w4 := w3.new (o := .tup vs) hp
      exact ⟨S3, M3, [d, u, .tup ds], P, w4, .cons (dt_step w3 t4 _ h13) (.cons (dt_step w3 t4 _ hu) (.cons (.tup (w3.ns hp) upd_same (h23.sm (Same.new hp))) .nil)), q, k.go (((t1.trans t2).trans t3).trans t4)⟩⟩
def tTryFin (tb tf : TS) : TS := fun D σ H => tb { nx := fun σ1 H1 => tf D σ1 H1, rt := fun _ _ => False } σ H
def sTryFin (b f : DS) : DS := fun nx rt bk ct δ M => b (fun δ1 M1 => f nx rt bk ct δ1 M1) (fun _ _ => False) (fun _ _ => False) (fun _ _ => False) δ M
instance pu_tryFin {tb tf : TS} {db df : DS} [A : PuS tb db] [B : PuS tf df] : PuS (tTryFin tb tf) (sTryFin db df) := ⟨fun S M σ δ H nx rt bk ct D w e h l =>
  A.run S M σ δ H _ _ _ _ _ w e h ⟨fun δ1 S1 M1 σ1 H1 p1 t1 w1 e1 => B.run S1 M1 σ1 δ1 H1 nx rt bk ct D w1 e1 p1 (l.go t1), fun _ _ _ _ _ q => q.elim, fun _ _ _ _ _ q => q.elim, fun _ _ _ _ _ q => q.elim⟩⟩
end V
namespace V
open PySem PySem.Spec PyProof.Rows L2 U StX
def liftK0 (sp : DC) : List V → List V → Hp → VK → XK → Prop := fun vs kvs H Q E => ∃ x rest, vs = x :: rest ∧ kvs = [] ∧ rest.length ≤ sizeLine ∧ ∀ p, H p = none → lift sp [x, .non, V.ref p] (upd H p (.tup rest)) Q E
/-- over data -/
def dMethK0 (C : Addr) (m : Str) (sp : DC) (a : DE) (t : DA) : DE := fun δ M P => a δ M fun x M1 => (∃ ns xs, isIn M1 x C ns xs ∧ m ∉ ns) ∧ t δ M1 fun ds M2 => ds.length ≤ 1000 ∧ sp [x, .non, .tup ds] M2 P
instance pu_methK0 {E : XK} {C : Addr} {m : Str} {sp : DC} {ta : TE} {t : TA} {da : DE} {dt : DA} [A : PuE ta da] [B : PuA t dt] : PuE (tMethK C m (liftK0 sp) E ta t tNil) (dMethK0 C m sp da dt) := ⟨fun S M σ δ H P Q w e h k =>
  A.run S M σ δ H _ _ w e h fun d S1 M1 v H1 p1 t1 w1 h1 => by
    obtain ⟨⟨ns, xs, hi, hm⟩, p1⟩ := p1
    obtain ⟨a, dx, fs, rfl, ha, hn, hs⟩ := in_get w1 h1 hi
    refine ⟨a, dx, fs, rfl, ha, lookup_none (by rw [hn]; exact hm), B.run S1 M1 σ δ H1 _ _ w1 (e.step w t1) p1 fun ds S2 M2 vs H2 p2 t2 w2 h2 => ?_⟩
    obtain ⟨hl, q⟩ := p2
    refine ⟨by rw [h2.length]; exact hl, by simp, _, vs, rfl, rfl, by rw [h2.length, sizeLine_eq]; omega, fun p hp => ?_⟩
    have t4 : Step S2 M2 H2 S2 M2 (upd H2 p (.tup vs)) := .new hp
    have w4 := w2.new (o := .tup vs) hp
    exact ⟨S2, M2, [d, .non, .tup ds], P, w4, .cons (dt_step w2 t4 _ (dt_step w1 t2 _ h1)) (.cons .non (.cons (.tup (w2.ns hp) upd_same (h2.sm (Same.new hp))) .nil)), q, k.go ((t1.trans t2).trans t4)⟩⟩
def dPop (a : DE) : DE := fun δ M P => a δ M fun x M1 => ∃ l xs d, x = .ptr l ∧ M1 l = some (.lst xs) ∧ xs[xs.length - 1]? = some d ∧ P d (mset M1 l (.lst xs.dropLast))
theorem dtA_init {S : Addr → Prop} {H : Hp} : ∀ {vs : List V} {ds : List D}, DtA S H vs ds → DtA S H vs.dropLast ds.dropLast
  | [], [], .nil => .nil
  | [_], [_], .cons _ .nil => .nil
  | _ :: _ :: _, _ :: _ :: _, .cons h (.cons h2 t) => .cons h (dtA_init (.cons h2 t))
instance pu_pop {K : PySem.W.Frag} {ta : TE} {da : DE} [A : PuE ta da] : PuE (tBM0 K "list" rPop ta) (dPop da) := ⟨fun S M σ δ H P Q w e h k =>
  A.run S M σ δ H _ _ w e h fun d S1 M1 v H1 p1 t1 w1 h1 => by
    obtain ⟨l, xs, y, rfl, hm, hy, p1⟩ := p1
    cases h1
    obtain ⟨sl, vs, ha, hs⟩ := w1.mem l _ hm
    have ex : Ext S1 H1 (upd H1 l (.lst vs.dropLast)) := Ext.mut (Ext.refl _) sl
    obtain ⟨u, hu, hd⟩ := hs.get hy
    exact ⟨.inl ⟨rfl, _, SqL.of ha⟩, l, vs, u, rfl, rfl, ha, by rw [hs.length]; exact hu, k _ _ _ _ _ p1 (t1.trans (.change hm)) (w1.change hm ⟨_, upd_same, (dtA_init hs).go ex⟩) (hd.go ex)⟩⟩
def rAddM : R2 := fun x y H Q => ∃ p q, x = V.ref p ∧ y = V.ref q ∧ rAddU x y H Q
def rAddM1 : DR := fun x y M P => ∃ xs ys, isLs M x xs ∧ isLs M y ys ∧ xs.length + ys.length ≤ sizeLine ∧ ∀ a, M a = none → P (.ptr a) (mset M a (.lst (xs ++ ys)))
instance op_addM1 : OpD rAddM rAddM1 := ⟨fun S M H x y dx dy P Q w hx hy h k => by
  obtain ⟨xs, ys, h1, h2, hl, h⟩ := h
  obtain ⟨a, vs, rfl, ha, hs⟩ := ls_get w hx h1
  obtain ⟨b, ws, rfl, hb, ht⟩ := ls_get w hy h2
  refine ⟨a, b, rfl, rfl, rAddU_l ha hb (by rw [hs.length, ht.length]; exact hl) fun p hp => ?_⟩
  have hs3 : DtA (fun a => S a ∨ a = p) (upd H p (.lst (vs ++ ws))) (vs ++ ws) (xs ++ ys) := by
    have := DtA.set (S := S) (S' := fun a => S a ∨ a = p) (fun b n k z => z.elim n fun q => k (by rw [q]; exact hp)) _ (hs.append ht)
    exact this.sm (Same.new hp)
  exact k (.ptr p) _ _ (.ref p) _ (h p (w.fresh hp)) (.mutable w hp) (w.mutable hp ⟨_, upd_same, hs3⟩) (.ptr p)⟩
end V
namespace PySem
namespace HandSPX
open Spec PyProof.Rows
end HandSPX
end PySem
namespace V
open PySem PySem.Spec PyProof.Rows L2 U StX
end V
namespace V
open PySem PySem.Spec PyProof.Rows L2 U StX
def tMade (C : Addr) (f : Str) (ta : TA) : TE := fun σ H Q => tMkO C (spExI C f) [] ta σ H fun cls d H' => ∀ (a : Addr) (oe : Obj) (us : Array Value), H' a = none → oe.cls = cls → oe.dict = d → oe.data = .fields us → Q (.ref a) (upd H' a (xObj oe))
def tMade0 (C : Addr) : TE := fun _ H Q => ∀ (a : Addr) (oe : Obj) (us : Array Value), H a = none → oe.cls = .ref C → oe.dict = none → oe.data = .fields us → Q (.ref a) (upd H a (xObj oe))
def dMade (C : Addr) (f : Str) (a : DE) : DE := fun δ M P => a δ M fun y M1 => ∀ b, M1 b = none → P (.ptr b) (mset M1 b (.xob C [(f, y)]))
def dMade0 (C : Addr) : DE := fun _ M P => ∀ b, M b = none → P (.ptr b) (mset M b (.xob C []))
instance pu_made {C : Addr} {f : Str} {te : TE} {da : DE} [A : PuE te da] : PuE (tMade C f (tCons te tNil)) (dMade C f da) := ⟨fun S M σ δ H P Q w e h k =>
  A.run S M σ δ H _ _ w e h fun d S1 M1 v H1 p1 t1 w1 h1 => by
    refine ⟨by simp, fun a na => ⟨a, v, rfl, upd_same, fun dx nd ne => ?_⟩⟩
    have nd1 : H1 dx = none := by rw [upd_ne ne] at nd; exact nd
    refine ⟨rfl, dx, [(f, v)], upd_same, by rw [upd_ne ne, upd_same], nd1, ?_⟩
    rw [upd_back na ne]
    intro b oe us hb e1 e2 e3
    have w' := w1.new (o := .xd [(f, v)]) nd1
    have t' := t1.trans (Step.new (S := S1) (M := M1) (o := .xd [(f, v)]) nd1)
    have xf : XF S1 (upd H1 dx (.xd [(f, v)])) oe.dict [(f, d)] := .inr ⟨dx, _, e2, w1.ns nd1, upd_same, rfl, .cons (h1.sm (Same.new nd1)) .nil⟩
    exact k _ _ _ _ _ (p1 b (w'.fresh hb)) (t'.trans (Step.mutable (S := S1) (M := M1) (mo := .xob C [(f, d)]) (o := xObj oe) w' hb)) (w'.mutable hb (held_xob hb e1 e3 xf)) (.ptr b)⟩
instance pu_made0 {C : Addr} : PuE (tMade0 C) (dMade0 C) := ⟨fun S M σ δ H P Q w e h k => by
  intro b oe us hb e1 e2 e3
  exact k _ _ _ _ _ (h b (w.fresh hb)) (Step.mutable (S := S) (M := M) (mo := .xob C []) (o := xObj oe) w hb) (w.mutable hb (held_xob hb e1 e3 (.inl ⟨e2, rfl⟩))) (.ptr b)⟩
end V
namespace V
open PySem PySem.Spec PyProof.Rows L2 U StX
/-- a number whose digits are shown -/
def bigOk (i : Int) : Prop := i.natAbs < 10 ^ 4300
theorem bigOk.of {i : Int} {k : Nat} (h : i.natAbs < 2 ^ k) (hk : k ≤ 12900) : bigOk i :=
  Nat.lt_of_lt_of_le h (Nat.le_trans (Nat.pow_le_pow_right (by decide) hk) pow_lo)
/-- the text of a flat value -/
def showV : V → Str
  | .non => "None"
  | .bl b => if b then "True" else "False"
  | .int i => toString i
  | .str x => reprText x
  | _ => Str.empty
def showD : D → Str
  | .non => "None"
  | .bl b => if b then "True" else "False"
  | .int i => toString i
  | .str x => reprText x
  | _ => Str.empty
def goodV : V → Prop
  | .non => True
  | .bl _ => True
  | .int i => bigOk i
  | .str x => (reprText x).length ≤ sizeLine
  | _ => False
def goodD : D → Prop
  | .non => True
  | .bl _ => True
  | .int i => bigOk i
  | .str x => (reprText x).length ≤ sizeLine
  | _ => False
theorem show_VD {S : Addr → Prop} {H : Hp} {v : V} {d : D} (h : Dt S H v d) (g : goodD d) : goodV v ∧ showV v = showD d := by
  cases h <;> first | exact ⟨g, rfl⟩ | exact g.elim
theorem shows_VD {S : Addr → Prop} {H : Hp} : ∀ {vs : List V} {ds : List D}, DtA S H vs ds → (∀ d ∈ ds, goodD d) → (∀ v ∈ vs, goodV v) ∧ vs.map showV = ds.map showD
  | _, _, .nil, _ => ⟨(fun _ h => nomatch h), rfl⟩
  | _, _, .cons h t, g => by
    obtain ⟨a, b⟩ := show_VD h (g _ List.mem_cons_self)
    obtain ⟨c, e⟩ := shows_VD t fun x hx => g x (List.mem_cons_of_mem _ hx)
    refine ⟨fun v hv => ?_, by rw [List.map_cons, List.map_cons, b, e]⟩
    rcases List.mem_cons.mp hv with rfl | hv
    · exact a
    · exact c v hv
def rReprF (K : PySem.W.Frag) : List V → Hp → VK → Prop := fun xs H Q => ∃ a v vs, xs = [.ref a] ∧ SqL K H a (v :: vs) ∧ (∀ x ∈ v :: vs, goodV x) ∧ (listText ((v :: vs).map showV)).length ≤ sizeLine ∧ Q (.str (listText ((v :: vs).map showV))) H
def rReprF1 : DC := fun ds M P => ∃ d x xs, ds = [d] ∧ isLs M d (x :: xs) ∧ (∀ y ∈ x :: xs, goodD y) ∧ (listText ((x :: xs).map showD)).length ≤ sizeLine ∧ P (.str (listText ((x :: xs).map showD))) M
instance cb_reprF {K : PySem.W.Frag} : CbD (rReprF K) rReprF1 := ⟨fun S M H vs ds P Q w hv h k => by
  obtain ⟨d, x, xs, rfl, hs, g, hz, q⟩ := h
  match vs, hv with
  | [v], .cons h0 .nil =>
    obtain ⟨a, us, rfl, ha, ht⟩ := ls_get w h0 hs
    obtain ⟨g2, e⟩ := shows_VD ht g
    match us, ht with
    | u :: us, ht =>
      refine ⟨a, u, us, rfl, SqL.of ha, g2, by rw [e]; exact hz, ?_⟩
      rw [e]
      exact k _ S M _ H q .refl w (.str _)⟩
end V
namespace V
open PySem PySem.Spec PyProof.Rows L2 U StX
section
variable {prog : Program} {w : World} {A : Around} {E : Value → Shared → Prop} {s : Shared} {K : PySem.W.Frag} {x C : Addr} {ox : Obj} {od : Option Obj} {v : Value}
/-- two things are not one -/
def Apart2 (prog : Program) (w : World) (s : Shared) (x : Addr) (v : Value) : Prop := ∀ (A : Around) (E : Value → Shared → Prop) (Q : Bool → Shared → Prop), Q false s → wpAny (model prog w) A (isSame (.ref x) v) Q E s
theorem Apart2.ref {y : Addr} {oy : Obj} (J : PySem.W.InstAt s.heap x ox C od) (hy : s.heap.get? y = some oy) (n : x ≠ y) : Apart2 prog w s x (.ref y) := fun A E Q q => by
  obtain ⟨hx, hc, _⟩ := J
  exact wpAny_isSame_ref_other n hx hy (by rw [hc]; intro z; cases z) q
theorem Apart2.non : Apart2 prog w s x .none := fun A E Q q => wpAny_pure q
end
section
variable {X : Cx} {K : PySem.W.Frag} {C : Addr}
/-- x == y, x != y of two instances of one class, two things -/
def rEqId (C : Addr) : R2 := fun x y H Q => ∃ a b dx dy fs gs, x = V.ref a ∧ y = V.ref b ∧ a ≠ b ∧ H a = some (.ins C dx fs) ∧ H b = some (.ins C dy gs) ∧ Q (.bl false) H
def rNeId (C : Addr) : R2 := fun x y H Q => ∃ a b dx dy fs gs, x = V.ref a ∧ y = V.ref b ∧ a ≠ b ∧ H a = some (.ins C dx fs) ∧ H b = some (.ins C dy gs) ∧ Q (.bl true) H
/-- x == y: y compares by an __eq__ of its own -/
def rEqOO (C D : Addr) (sp : Sp) : R2 := fun x y H Q => ∃ a b dx dy fs gs, x = V.ref a ∧ y = V.ref b ∧ a ≠ b ∧ H a = some (.ins C dx fs) ∧ H b = some (.ins D dy gs) ∧ sp [y, x] H (fun v H' => ∃ t, v = V.bl t ∧ Q (.bl t) H') L2.E0
/-- x == y: y is a tuple or None -/
def rEqOT (K : PySem.W.Frag) (C : Addr) : R2 := fun x y H Q => ∃ a dx fs, x = V.ref a ∧ H a = some (.ins C dx fs) ∧ (y = .non ∨ ∃ b ys, y = V.ref b ∧ H b = some (.tup ys)) ∧ Q (.bl false) H
/-- x == y: x by an __eq__ of its own, y of another class -/
def rEqOI (C D : Addr) (sp : Sp) : R2 := fun x y H Q => ∃ a b dx dy fs gs, x = V.ref a ∧ y = V.ref b ∧ H a = some (.ins C dx fs) ∧ H b = some (.ins D dy gs) ∧ sp [x, y] H (fun v H' => ∃ t, v = V.bl t ∧ Q (.bl t) H') L2.E0
/-- x == y of two instances of one class, by an __eq__ of its own -/
def rEqSame (C : Addr) (sp : Sp) : R2 := fun x y H Q => ∃ a b dx dy fs gs, x = V.ref a ∧ y = V.ref b ∧ H a = some (.ins C dx fs) ∧ H b = some (.ins C dy gs) ∧ sp [x, y] H (fun v H' => ∃ t, v = V.bl t ∧ Q (.bl t) H') L2.E0
end
def rEqIdD (C : Addr) : DR := fun x y M P => ∃ a b fs gs, x = .ptr a ∧ y = .ptr b ∧ a ≠ b ∧ M a = some (.ins C fs) ∧ M b = some (.ins C gs) ∧ P (.bl false) M
def rNeIdD (C : Addr) : DR := fun x y M P => ∃ a b fs gs, x = .ptr a ∧ y = .ptr b ∧ a ≠ b ∧ M a = some (.ins C fs) ∧ M b = some (.ins C gs) ∧ P (.bl true) M
def rEqOOD (C E : Addr) (sp : DC) : DR := fun x y M P => ∃ a fs n2 x2, x = .ptr a ∧ M a = some (.ins C fs) ∧ y = .ins E n2 x2 ∧ sp [y, x] M fun d M' => ∃ t, d = .bl t ∧ P (.bl t) M'
def rEqOTD (C : Addr) : DR := fun x y M P => ∃ a fs, x = .ptr a ∧ M a = some (.ins C fs) ∧ (y = .non ∨ ∃ ys, y = .tup ys) ∧ P (.bl false) M
def rEqOID (C E : Addr) (sp : DC) : DR := fun x y M P => ∃ b gs n1 x1, x = .ins C n1 x1 ∧ y = .ptr b ∧ M b = some (.ins E gs) ∧ sp [x, y] M fun d M' => ∃ t, d = .bl t ∧ P (.bl t) M'
theorem held_ins {S : Addr → Prop} {M : Mem} {H : Hp} {a C : Addr} {fs : List (Str × D)} (w : Wo S M H) (h : M a = some (.ins C fs)) : S a ∧ ∃ dx gs, H a = some (.ins C dx gs) := by
  obtain ⟨sa, dx, gs, e, _⟩ := w.mem a _ h
  exact ⟨sa, dx, gs, e⟩
instance op_eqIdD {C : Addr} : OpD (rEqId C) (rEqIdD C) := ⟨fun S M H x y dx dy P Q w hx hy h k => by
  obtain ⟨a, b, fs, gs, rfl, rfl, n, ha, hb, q⟩ := h
  cases hx; cases hy
  obtain ⟨_, d1, g1, e1⟩ := held_ins w ha
  obtain ⟨_, d2, g2, e2⟩ := held_ins w hb
  exact ⟨a, b, d1, d2, g1, g2, rfl, rfl, n, e1, e2, k _ S M _ H q .refl w (.bl _)⟩⟩
instance op_neIdD {C : Addr} : OpD (rNeId C) (rNeIdD C) := ⟨fun S M H x y dx dy P Q w hx hy h k => by
  obtain ⟨a, b, fs, gs, rfl, rfl, n, ha, hb, q⟩ := h
  cases hx; cases hy
  obtain ⟨_, d1, g1, e1⟩ := held_ins w ha
  obtain ⟨_, d2, g2, e2⟩ := held_ins w hb
  exact ⟨a, b, d1, d2, g1, g2, rfl, rfl, n, e1, e2, k _ S M _ H q .refl w (.bl _)⟩⟩
instance op_eqOOD {C E : Addr} {sp : DC} : OpD (rEqOO C E (lift sp)) (rEqOOD C E sp) := ⟨fun S M H x y dx dy P Q w hx hy h k => by
  obtain ⟨a, fs, n2, x2, rfl, ha, rfl, q⟩ := h
  have gy := hy
  cases hx
  obtain ⟨sa, d1, g1, e1⟩ := held_ins w ha
  cases hy with
  | ins nb hb _ _ =>
    refine ⟨a, _, d1, _, g1, _, rfl, rfl, fun z => nb (by rw [← z]; exact sa), e1, hb, S, M, _, _, w, .cons gy (.cons (.ptr a) .nil), q, fun d S' M' v H' p t w' hv => ?_⟩
    obtain ⟨b, rfl, p⟩ := p
    cases hv
    exact ⟨b, rfl, k _ S' M' _ H' p t w' (.bl _)⟩⟩
instance op_eqOTD {K : PySem.W.Frag} {C : Addr} : OpD (rEqOT K C) (rEqOTD C) := ⟨fun S M H x y dx dy P Q w hx hy h k => by
  obtain ⟨a, fs, rfl, ha, hk, q⟩ := h
  cases hx
  obtain ⟨sa, d1, g1, e1⟩ := held_ins w ha
  refine ⟨a, d1, g1, rfl, e1, ?_, k _ S M _ H q .refl w (.bl _)⟩
  rcases hk with rfl | ⟨ys, rfl⟩
  · cases hy
    exact .inl rfl
  · cases hy with
    | tup _ hb _ => exact .inr ⟨_, _, rfl, hb⟩⟩
instance op_eqOID {C E : Addr} {sp : DC} : OpD (rEqOI C E (lift sp)) (rEqOID C E sp) := ⟨fun S M H x y dx dy P Q w hx hy h k => by
  obtain ⟨b, gs, n1, x1, rfl, rfl, hb, q⟩ := h
  have gx := hx
  cases hy
  obtain ⟨sb, d1, g1, e1⟩ := held_ins w hb
  cases hx with
  | ins na ha _ _ =>
    refine ⟨_, b, _, d1, _, g1, rfl, rfl, ha, e1, S, M, _, _, w, .cons gx (.cons (.ptr b) .nil), q, fun d S' M' v H' p t w' hv => ?_⟩
    obtain ⟨b, rfl, p⟩ := p
    cases hv
    exact ⟨b, rfl, k _ S' M' _ H' p t w' (.bl _)⟩⟩
def rEqSameD (C : Addr) (sp : DC) : DR := fun x y M P => ∃ n1 x1 n2 x2, x = .ins C n1 x1 ∧ y = .ins C n2 x2 ∧ sp [x, y] M fun d M' => ∃ t, d = .bl t ∧ P (.bl t) M'
instance op_eqSameD {C : Addr} {sp : DC} : OpD (rEqSame C (lift sp)) (rEqSameD C sp) := ⟨fun S M H x y dx dy P Q w hx hy h k => by
  obtain ⟨n1, x1, n2, x2, rfl, rfl, q⟩ := h
  have gx := hx
  have gy := hy
  cases hx with
  | ins na ha _ _ =>
    cases hy with
    | ins nb hb _ _ =>
      refine ⟨_, _, _, _, _, _, rfl, rfl, ha, hb, S, M, _, _, w, .cons gx (.cons gy .nil), q, fun d S' M' v H' p t w' hv => ?_⟩
      obtain ⟨b, rfl, p⟩ := p
      cases hv
      exact ⟨b, rfl, k _ S' M' _ H' p t w' (.bl _)⟩⟩
end V
namespace V
open PySem PySem.Spec PyProof.Rows L2 U StX
end V
namespace V
open PySem PySem.Spec PyProof.Rows L2 U StX
def rGeD (K : PySem.W.Frag) : R2 := fun x y H Q => ∃ d e, Dp K H x d ∧ Dp K H y e ∧ PySem.W.alike d e = true ∧ d ≠ .none ∧ min d.depth e.depth < 64 ∧ Q (.bl (!PySem.W.dataLt d e)) H
def rGeP1 : DR := fun x y M P => ∃ (n m : Int) (z u : Str), x = .tup [.int n, .str z] ∧ y = .tup [.int m, .str u] ∧ P (.bl (!(if n = m then decide (cd z < cd u) else decide (n < m)))) M
instance op_geP1 {K : PySem.W.Frag} : OpD (rGeD K) rGeP1 := ⟨fun S M H x y dx dy P Q w hx hy h k => by
  obtain ⟨n, m, z, u, rfl, rfl, p⟩ := h
  have e1 : D.py (.tup [.int n, .str z]) = some (.tuple [.int n, .str z]) := by simp [D.py, D.pys]
  have e2 : D.py (.tup [.int m, .str u]) = some (.tuple [.int m, .str u]) := by simp [D.py, D.pys]
  refine ⟨_, _, Dt.dp _ hx e1, Dt.dp _ hy e2, by simp [PySem.W.alike, PySem.W.alikeAll], by simp, by simp [PyData.depth, PyData.depthAll], ?_⟩
  rw [lt_np]
  exact k _ S M _ H p .refl w (.bl _)⟩
end V
namespace V
open PySem PySem.Spec PyProof.Rows L2 U StX
def tKGet2 (l : List (Str × Int)) (ks : List Str) (te : TE) : TE := fun σ H Q => te σ H fun y H1 => (∃ p ∈ l, y = .str p.1 ∧ Q (.int p.2) H1) ∨ ∃ k ∈ ks, y = .str k ∧ Q .non H1
def dKGet2 (l : List (Str × Int)) (ks : List Str) (e : DE) : DE := fun δ M P => e δ M fun y M1 => (∃ p ∈ l, y = .str p.1 ∧ P (.int p.2) M1) ∨ ∃ k ∈ ks, y = .str k ∧ P .non M1
instance pu_kget2 {l : List (Str × Int)} {ks : List Str} {te : TE} {de : DE} [A : PuE te de] : PuE (tKGet2 l ks te) (dKGet2 l ks de) := ⟨fun S M σ δ H P Q w e h k =>
  A.run S M σ δ H _ _ w e h fun x S1 M1 v1 H1 p1 t1 w1 h1 => by
    rcases p1 with ⟨p, hp, rfl, p1⟩ | ⟨z, hz, rfl, p1⟩
    · cases h1
      exact .inl ⟨p, hp, rfl, k _ S1 M1 _ H1 p1 t1 w1 (.int _)⟩
    · cases h1
      exact .inr ⟨z, hz, rfl, k _ S1 M1 _ H1 p1 t1 w1 .non⟩⟩
end V
namespace V
open PySem PySem.Spec PyProof.Rows L2 U StX
section
variable {prog : Program} {w : World} {A : Around} {E : Value → Shared → Prop} {s : Shared} {K : PySem.W.Frag}
/-- an instance under way -/
theorem und_inst {b : Nat} {x C fn : Addr} {ox : Obj} {od} {R : Str → Shared → Prop} (hb : b ≤ sizeLine) (room : A.units < cLine) (kin : K.In s.heap) (iat : PySem.W.InstAt s.heap x ox C od)
    (own : PySem.W.findIn K (.ref C) "__repr__" = some (some (.ref fn))) (isf : PySem.W.isFn K (.ref fn) = true)
    (h : wpAny (model prog w) A (call (.ref fn) [.ref x]) (fun v s' => ∃ z t, v = .str z t ∧ R z s') E s) : wpAny (model prog w) A (pyReprUnder b (.ref x)) R E s := by
  refine wpAny_pyReprUnder_ref hb ?_
  unfold pyReprObjUnder pyReprObjBy; refine wpAny_bind (wpAny_cRoomFor room ?_)
  refine wpAny_bind (wpAny_bind (iat.type.here ((PySem.W.looks_findIn kin own).here ?_)))
  show wpAny _ _ (if (some (Value.ref fn)).isNone = true then _ else _) _ _ _
  rw [if_neg (show ¬ (some (Value.ref fn)).isNone = true by simp)]
  refine wpAny_bind (m := callSpecialIfBoundBy? _ (.ref x) (Str.ofString "__repr__")) ?_
  simp only [callSpecialIfBoundBy?, bindSpecialIfBound?]; refine wpAny_holding (wpAny_bind (wpAny_bind (wpAny_bind (iat.type.here ((PySem.W.looks_findIn kin own).here ?_)))))
  refine wpAny_bind (wpAny_askSetting (wpAny_ite ?_)); split
  · refine wpAny_bind ((PySem.W.bind_fn kin _ (beq_iff_eq.mp isf)).here (wpAny_pure ?_))
    show wpAny _ _ (call (.ref fn) ([Value.ref x] ++ []) >>= fun u => pure (some u)) _ _ _
    refine wpAny_bind (wpAny_mono h (fun u s' hu => wpAny_pure ?_) fun _ _ e => e)
    obtain ⟨z, t, rfl, hz⟩ := hu
    exact wpAny_bind (wpAny_isInstance (T := "str") (b := true) rfl isSubtype_str_str (wpAny_pure ⟨z, t, rfl, hz⟩))
  · refine wpAny_tryCatch (wpAny_bind ((PySem.W.bind_fn kin _ (beq_iff_eq.mp isf)).here (wpAny_pure ?_)))
    show wpAny _ _ (call (.ref fn) ([Value.ref x] ++ []) >>= fun u => pure (some u)) _ _ _
    refine wpAny_bind (wpAny_mono h (fun u s' hu => wpAny_pure ?_) fun _ _ e => e)
    obtain ⟨z, t, rfl, hz⟩ := hu
    exact wpAny_bind (wpAny_isInstance (T := "str") (b := true) rfl isSubtype_str_str (wpAny_pure ⟨z, t, rfl, hz⟩))
/-- a tuple of two, the last one by its own rule -/
theorem tup2_own {p : Addr} {o : Obj} {x y : Value} {n : Nat} {t1 : Str} {R : Value → Shared → Prop} (ho : s.heap.get? p = some o) (hc : o.cls = .type "tuple") (hd : o.data = .seq #[x, y] n)
    (h1 : ReprIs prog w x t1) (l1 : t1.length ≤ 1000) (hg : A.guards = some []) (room : A.units + 1 < cLine)
    (h2 : ∀ k, wpAny (model prog w) (A.in1.under (.builtin "tuple.__repr__" ⟨[.ref p], []⟩)) (pyReprUnder (0 + (t1.length + 2) + 1) y) (fun t s' => (tupleText [t1, t]).length ≤ sizeLine ∧ ∀ u k', R (.str (tupleText [t1, t]) u) { s' with toks := k' }) E { s with toks := k }) :
    wpAny (model prog w) A (call (.builtin "repr") [.ref p]) R E s := by
  refine call_repr_slot room ⟨o, ho, hc⟩ F.slot_tuple_repr ?_
  refine wpAny_call (codeAny_call_builtin_own (Code.quiet_builtin _ (by decide +kernel)) F.entry_tuple_repr (F.slot_tuple_repr.check _ _ _ _ _ _ _ _ ⟨o, ho, hc⟩ (F.args_tuple_repr_1 _) ?_))
  show wpOwn _ _ _ (Builtin.tupleReprAt 0 ⟨[Value.ref p], []⟩) _ _ _
  rw [tuple_repr_tree, tupleReprUnderWay_eq]; refine wpOwn_bind (wpOwn_stackTailAny (g := []) hg (tupGuardF_off _) (tupGuardF_pos _) ?_)
  rw [show (([] : List Code).any fun c => tupGuardF (.ref p) (c, default)) = false from rfl]
  refine wpOwn_of_wpAny ?_
  show wpAny _ _ (tupleReprRest 0 (Value.ref p)) _ _ _
  unfold tupleReprRest Builtin.Tuple.tupleItemsOf; refine wpAny_bind (wpAny_bind (wpAny_seqItems ho hd (wpAny_pure ?_)))
  rw [← Array.forIn_toList]
  show wpAny _ _ (forIn [x, y] _ tupBody >>= _) _ _ _
  rw [List.forIn_cons]
  refine wpAny_bind (wpAny_bind (wpAny_bind (h1 1 (by rw [sizeLine_eq]; omega) _ _ _ _ fun k => wpAny_pure ?_)))
  show wpAny _ _ (forIn [y] _ tupBody) _ _ _
  rw [List.forIn_cons]
  refine wpAny_bind (wpAny_bind (wpAny_mono (h2 k) (fun t s' hq => wpAny_pure ?_) fun _ _ e => e))
  show wpAny _ _ (forIn ([] : List Value) _ tupBody) _ _ _
  rw [List.forIn_nil]
  refine wpAny_pure ?_
  have txt : (Str.ofString "(" ++ (Str.ofString ", ").join [t1, t] ++ Str.ofString (if (#[x, y].size == 1) = true then ",)" else ")")) = tupleText [t1, t] := rfl
  show wpAny _ _ (retStr (Str.ofString "(" ++ (Str.ofString ", ").join [t1, t] ++ Str.ofString (if (#[x, y].size == 1) = true then ",)" else ")"))) _ _ _
  rw [txt]
  exact wpAny_bind (wpAny_mkStr (wpAny_pure ⟨_, _, rfl, hq.2 _ _⟩) hq.1)
/-- the list of the parts -/
abbrev partsO (xs : Array Value) (c : Nat) : Obj := { cls := .type "list", dict := none, data := .seq xs c, slots := #[] }
/-- a list of one, under way; the one by its own rule -/
theorem und_list1 {b : Nat} {l : Addr} {o : Obj} {x : Value} {n : Nat} {g : List Code} {R : Str → Shared → Prop} (hb : b ≤ sizeLine) (ho : s.heap.get? l = some o) (hc : o.cls = .type "list") (hd : o.data = .seq #[x] n)
    (hg : A.guards = some g) (hcl : Clear g l) (room : A.units + 2 < cLine)
    (h2 : wpAny (model prog w) (A.under (.builtin "list.__repr__.loop" ⟨[.ref l, rawInt 0, .ref s.heap.objs.size, rawInt b], []⟩)) (pyReprUnder (b + 1) x) (fun t s' => (∃ o' n', s'.heap.get? l = some o' ∧ o'.data = .seq #[x] n') ∧ s'.heap.get? s.heap.objs.size = some (partsO #[] 0) ∧
      t.length + 10 + b ≤ sizeLine ∧ ∀ h' k', (∀ c u, c ≠ s.heap.objs.size → s'.heap.get? c = some u → h'.get? c = some u) → R (listText [t]) { s' with heap := h', toks := k' }) E { s with heap := s.heap.push (partsO #[] 0) }) :
    wpAny (model prog w) A (pyReprUnder b (.ref l)) R E s := by
  refine wpAny_pyReprUnder_ref hb ?_
  refine wpAny_pyReprObjUnder_twin (twin := "list.__repr__.under") ⟨o, ho, hc⟩ F.slot_list_repr.toG rfl (by omega) ?_
  refine call_twin_plain F.plain_list_repr_under F.entry_list_repr_under F.check_list_repr_under ⟨o, ho, hc⟩ F.slot_list_repr.toG (F.args_list_repr_1 _) ?_
  refine wpAny_list_repr_head (A := A.in1) (l := []) hg (fun v rest kw hm => listSameRef_of_ne (hcl _ _ _ _ hm)) ho hd ?_
  refine wpAny_bind (m := newList []) (wpAny_newObj_type ?_); refine wpAny_pure ⟨F.quiet_list_repr_loop _, ?_⟩; have lne : l ≠ s.heap.objs.size := Nat.ne_of_lt (Heap.lt_size ho)
  -- the first turn
  refine codeAny_builtin F.entry_list_repr_loop ?_; show wpAny _ _ (Builtin.«list.__repr__.loop» ⟨[.ref l, .int (0 : Int) 0, .ref s.heap.objs.size, .int (b : Int) 0], []⟩) _ _ _
  rw [repr_loop_tree]
  refine wpAny_bind (wpAny_listItems (Heap.get?_push_of_some _ ho) hd ?_)
  simp only [show (#[x] : Array Value)[(0 : Int).toNat]? = some x from rfl]
  rw [Int.toNat_natCast]
  refine wpAny_bind (wpAny_holding (wpAny_mono h2 (fun t s' hq => ?_) fun _ _ e => e))
  obtain ⟨⟨o', n', e1, e2⟩, e3, sz, fin⟩ := hq
  refine wpAny_bind (wpAny_mkStr ?_ (by omega))
  refine wpAny_bind ?_
  show wpAny _ _ (updateSeq s.heap.objs.size _) _ _ _
  refine wpAny_updateSeq e3 rfl (wpAny_pure ⟨F.quiet_list_repr_loop _, ?_⟩) (by decide)
  -- the second turn
  refine codeAny_builtin F.entry_list_repr_loop ?_; have P1 := Heap.get?_update_self (fun ob : Obj => Obj.mapSeq (fun xs => xs.push (Value.str t s'.toks)) ob) e3 rfl
  have L1 := (Heap.get?_update_other (h := s'.heap) (a := s.heap.objs.size) (b := l) (Obj.mapSeq fun xs => xs.push (Value.str t s'.toks)) (fun z => lne z.symm)).trans e1
  show wpAny _ _ (Builtin.«list.__repr__.loop» ⟨[.ref l, .int ((0 : Int) + 1) 0, .ref s.heap.objs.size, .int ((b + (t.length + 2) : Nat) : Int) 0], []⟩) _ _ _
  rw [repr_loop_tree]
  refine wpAny_bind (wpAny_listItems L1 e2 ?_)
  simp only [show (#[x] : Array Value)[((0 : Int) + 1).toNat]? = none from rfl]
  unfold reprEnd
  refine wpAny_bind (wpAny_listItems P1 rfl ?_)
  show wpAny _ _ (forIn ((strValues [(t, s'.toks)]).zipIdx 0) _ reprBody >>= _) _ _ _
  rw [repr_fold]
  refine wpAny_bind (wpAny_pure ?_); have len : (listText [t]).length ≤ sizeLine := by
    have e : (listText [t]).length = t.length + 2 := by
      show ((("[" : Str) ++ ("" : String) ++ t) ++ "]").length = _
      rw [strLen_append, strLen_append, strLen_append]
      show 1 + 0 + t.length + 1 = _
      omega
    omega
  show wpAny _ _ (retStr (listText [t])) _ _ _
  refine wpAny_bind (wpAny_mkStr (wpAny_pure ?_) len)
  exact ⟨⟨_, _, rfl⟩, _, _, rfl, fin _ _ fun c u hc e => (Heap.get?_update_other _ _ (fun z => hc z.symm)).trans e⟩
end
theorem und_depth {A : Around} {id : String} {args : Args} (h : id = "tuple.__repr__" ∨ id = "list.__repr__.loop") : (A.under (.builtin id args)).depth = A.depth ∨ (A.under (.builtin id args)).depth = A.depth + 1 := by
  rcases h with rfl | rfl <;> first | exact .inl rfl | exact .inr rfl | (simp [Around.under, Code.weight, Code.isCreation, Code.isGuard, Code.isCaller, Code.frames, Code.isFrame, guardIds])
theorem und_units {A : Around} {id : String} {args : Args} (h : id = "tuple.__repr__" ∨ id = "list.__repr__.loop") : (A.under (.builtin id args)).units = A.units + 1 := by
  rcases h with rfl | rfl
  · exact units_under_tuple_repr A args
  · exact units_under_list_loop A args
theorem und_frames {A : Around} {id : String} {args : Args} {l : List Env} (h : A.frames = some l) : (A.under (.builtin id args)).frames = some l := by
  first | exact h | (simpa [Around.under, Code.envs, Code.isFrame, pushEnvs] using h)
theorem und_room {A : Around} {k : Nat} {id : String} {args : Args} (h : id = "tuple.__repr__" ∨ id = "list.__repr__.loop") (r : Room (k + 1) A) : Room k (A.under (.builtin id args)) :=
  ⟨r.hd, by have := r.dp; rcases und_depth (A := A) (args := args) h with e | e <;> rw [e] <;> omega, by have := r.un; rw [und_units h]; omega⟩
section
variable {X : Cx} {n : Nat} {f : Addr} {fd : FuncData} {ps : List Str} {C : Addr} {sp : Sp}
/-- an own instance under way, by its own __repr__ -/
theorem und_own (hb : Binds X.K fd ps []) (F : FnOk X.prog X.w X.K X.mg X.base L2.CX0 n f fd ps sp) (hs : PySem.W.findIn X.K (.ref C) "__repr__" = some (some (.ref f))) (hf : PySem.W.isFn X.K (.ref f) = true)
    {pins : List (Addr × Obj)} {σ : L2.St} {H : Hp} {s : Shared} (I : Inv X pins σ H s) {a dx : Addr} {fs : List (Str × V)} (ha : H a = some (.ins C dx fs)) {W : Str → Hp → Prop} (hsp : sp [.ref a] H (fun v H' => ∃ z : Str, v = .str z ∧ W z H') L2.E0)
    {A' : Around} (rm : Room n A') (fr : A'.frames = some X.stack) {b : Nat} (hbz : b ≤ sizeLine) {R : Str → Shared → Prop} (hR : ∀ z H' s', Un (frs X.stack) [] H H' s.heap s'.heap → Inv X pins σ H' s' → W z H' → R z s') :
    wpAny (model X.prog X.w) A' (pyReprUnder b (.ref a)) R X.xe s := by
  obtain ⟨mA, J, _⟩ := ins_get I.hok ha
  obtain ⟨od, J, _⟩ := J.look
  refine und_inst hbz rm.units0 I.kIn J hs hf ?_
  have e0 : Env0 X.prog X.w X.K X.mg X.base A' X.stack s H := by
    have e := I.env0
    exact ⟨fr, e.mod, e.bs, e.bsz, e.funs, e.frf, e.hok, e.bare⟩
  have hl := F.len _ _ _ _ hsp
  have vv : Vals [V.ref a] [Value.ref a] := .cons rfl .nil
  refine wpAny_call (codeAny_mono (F.run A' X.stack s H ⟨[.ref a], []⟩ [.ref a] [.ref a] _ L2.E0 rm e0 (by
    have := hb s [.ref a] I.kIn (by simpa using hl)
    simpa using this) vv hsp) fun r s' hq => ?_)
  cases r with
  | error e => exact L2.pass0 pins σ H s e s' I hq
  | ok fl =>
    cases fl with
    | ret u =>
      obtain ⟨v, H', os, bare, un, hok, rv, z, rfl, wz⟩ := hq
      obtain ⟨t, rfl⟩ := rv
      obtain ⟨hh, g, d, tk, os'⟩ := s'
      obtain rfl : os' = s.os := os
      exact ⟨z, t, rfl, hR z H' _ un (I.call (h' := hh) (g' := g) (d' := d) (t' := tk) (ch := []) un hok bare (fun b q => absurd q (by simp))) wz⟩
    | next => exact False.elim hq
    | brk => exact False.elim hq
    | cont => exact False.elim hq
/-- repr of (text, an own instance) -/
def rReprT2 (K : PySem.W.Frag) (C : Addr) (sp : Sp) : List V → Hp → VK → Prop := fun xs H Q => ∃ (p a dx : Addr) (fs : List (Str × V)) (z0 : Str), xs = [.ref p] ∧ SqT K H p [V.str z0, V.ref a] ∧ H a = some (.ins C dx fs) ∧ (reprText z0).length ≤ 1000 ∧
  sp [.ref a] H (fun v H' => ∃ z : Str, v = .str z ∧ (tupleText [reprText z0, z]).length ≤ sizeLine ∧ Q (.str (tupleText [reprText z0, z])) H') L2.E0
/-- repr of (text, [an own instance]) -/
def rReprTL (K : PySem.W.Frag) (C : Addr) (sp : Sp) : List V → Hp → VK → Prop := fun xs H Q => ∃ (p l a dx : Addr) (fs : List (Str × V)) (z0 : Str), xs = [.ref p] ∧ SqT K H p [V.str z0, V.ref l] ∧ p ≠ l ∧ H l = some (.lst [V.ref a]) ∧ H a = some (.ins C dx fs) ∧ (reprText z0).length ≤ 1000 ∧
  sp [.ref a] H (fun v H' => ∃ z : Str, v = .str z ∧ H' l = some (.lst [V.ref a]) ∧ z.length ≤ 100000 ∧ (tupleText [reprText z0, listText [z]]).length ≤ sizeLine ∧ Q (.str (tupleText [reprText z0, listText [z]])) H') L2.E0
theorem call_reprTL (hb : Binds X.K fd ps []) (F : FnOk X.prog X.w X.K X.mg X.base L2.CX0 n f fd ps sp) (hr : Room (n + 3) X.A) (hg : X.A.guards = some []) (hs : PySem.W.findIn X.K (.ref C) "__repr__" = some (some (.ref f))) (hf : PySem.W.isFn X.K (.ref f) = true) : CallR X (.builtin "repr") (rReprTL X.K C sp) := by
  intro pins s σ H xs us Q I r h
  obtain ⟨p, l, a, dx, fs, z0, rfl, hp, pl, hl, ha, l1, hsp⟩ := h
  match us, r with
  | [u], .cons ru .nil =>
    cases ru
    obtain ⟨its, rv, ⟨o, ho, hc, k, hd⟩, _⟩ := I.tuple hp
    match its, rv with
    | [v0, v1], .cons r0 (.cons r1 .nil) =>
      obtain ⟨t0, rfl⟩ := r0
      cases r1
      have un := hr.un
      refine tup2_own ho hc hd (ReprIs.str z0 t0 (by rw [sizeLine_eq]; omega)) l1 hg (by omega) fun k => ?_
      have I1 := I.tok k
      obtain ⟨_, il, nl, rl, _, hol⟩ := I1.lstM hl
      match il, rl with
      | [v2], .cons r2 .nil =>
        cases r2
        have rm1 : Room (n + 1) (X.A.in1.under (.builtin "tuple.__repr__" ⟨[.ref p], []⟩)) := und_room (.inl rfl) hr.in1
        have fr1 : (X.A.in1.under (.builtin "tuple.__repr__" ⟨[.ref p], []⟩)).frames = some X.stack := und_frames (show X.A.in1.frames = some X.stack from I.ok.frames)
        have un1 := rm1.un
        refine und_list1 (by rw [sizeLine_eq]; omega) hol rfl rfl (guards_under_guard (isGuard_tuple_repr _) hg) ((Clear.nil l).cons pl) (by omega) ?_
        have I2 := I1.kept (t' := k) (h' := s.heap.push (partsO #[] 0)) fun c u e => Heap.get?_push_of_some _ e
        refine und_own hb F hs hf I2 ha hsp (und_room (.inr rfl) rm1) (und_frames fr1) (by rw [sizeLine_eq]; omega) ?_
        intro z H' s' un' J hz
        obtain ⟨hz1, hz2, hz3, hz4⟩ := hz
        have hP : H s.heap.objs.size = none := I.hok.fresh (Nat.le_refl _)
        have nL : s.heap.objs.size ≠ X.env.locals := fun e => absurd I.lt (by rw [← e]; exact Nat.lt_irrefl _)
        have nF : s.heap.objs.size ∉ frs X.stack := fun q => by
          rcases List.mem_cons.mp (I.stkSub _ q) with e | e
          · exact nL e
          · exact I.nofs (Nat.le_refl _) e
        have gP : (s.heap.push (partsO #[] 0)).get? s.heap.objs.size = some (partsO #[] 0) := Heap.get?_push_size _ rfl
        obtain ⟨_, il2, nl2, rl2, _, hol2⟩ := J.lstM hz1
        match il2, rl2 with
        | [v3], .cons r3 .nil =>
          cases r3
          refine ⟨⟨_, nl2, hol2, rfl⟩, un'.keep _ _ gP hP nF (by simp), by rw [sizeLine_eq]; omega, fun h' k' hk => ⟨hz3, fun u k2 => ?_⟩⟩
          have J2 := J.turned (t' := k') (it := s.heap.objs.size) (h' := h') hk (un'.free _ _ gP hP (by simp)) nL (.inr I.sz) (fun x c e q => by
            obtain ⟨v, hv⟩ := I.cell x c e
            rw [q] at hv
            obtain ⟨oc, hoc, _⟩ := hv
            exact absurd (Heap.lt_size hoc) (Nat.lt_irrefl _)) fun pq hpq e => by
            have := (I.pin pq hpq).1
            rw [e] at this
            exact absurd (Heap.lt_size this) (Nat.lt_irrefl _)
          exact ⟨.str _, H', J2.tok k2, ⟨_, rfl⟩, hz4⟩
end
end V
namespace V
open PySem PySem.Spec PyProof.Rows L2 U StX
/-- one of two rules -/
theorem cr_or {X : Cx} {f : Value} {r1 r2 : List V → Hp → VK → Prop} (h1 : CallR X f r1) (h2 : CallR X f r2) : CallR X f (fun xs H Q => r1 xs H Q ∨ r2 xs H Q) := by
  intro pins s σ H xs us Q I r h
  exact h.elim (h1 pins s σ H xs us Q I r) (h2 pins s σ H xs us Q I r)
instance cb_or {r1 r2 : List V → Hp → VK → Prop} {d1 d2 : DC} [A : CbD r1 d1] [B : CbD r2 d2] : CbD (fun xs H Q => r1 xs H Q ∨ r2 xs H Q) (fun ds M P => d1 ds M P ∨ d2 ds M P) := ⟨fun S M H vs ds P Q w hv h k => h.elim (fun h => .inl (A.run S M H vs ds P Q w hv h k)) (fun h => .inr (B.run S M H vs ds P Q w hv h k))⟩
def rReprT2D (C : Addr) (sp : DC) : DC := fun ds M P => ∃ (z0 : Str) (d : D) (ns : List Str) (xs : List D), ds = [.tup [.str z0, d]] ∧ isIn M d C ns xs ∧ (reprText z0).length ≤ 1000 ∧ sp [d] M fun e M' => ∃ z : Str, e = .str z ∧ (tupleText [reprText z0, z]).length ≤ sizeLine ∧ P (.str (tupleText [reprText z0, z])) M'
instance cb_reprT2 {K : PySem.W.Frag} {C : Addr} {sp : DC} : CbD (rReprT2 K C (lift sp)) (rReprT2D C sp) := ⟨fun S M H vs ds P Q w hv h k => by
  obtain ⟨z0, d, ns, xs, rfl, hm, l1, q⟩ := h
  match vs, hv with
  | [v], .cons h1 .nil =>
    cases h1 with
    | tup hn hp hs =>
      match hs with
      | .cons (.str _) (.cons h2 .nil) =>
        obtain ⟨a, dx, fs', rfl, ha, _, _⟩ := in_get w h2 hm
        refine ⟨_, a, dx, fs', z0, rfl, SqT.of hp, ha, l1, S, M, [d], _, w, .cons h2 .nil, q, fun e S' M' v' H' pe st w' hd => ?_⟩
        obtain ⟨z, rfl, sz, pp⟩ := pe
        cases hd
        exact ⟨z, rfl, sz, k _ S' M' _ H' pp st w' (.str _)⟩⟩
def rReprTLD (C : Addr) (sp : DC) : DC := fun ds M P => ∃ (z0 : Str) (d : D) (ns : List Str) (xs : List D), ds = [.tup [.str z0, .lst [d]]] ∧ isIn M d C ns xs ∧ (reprText z0).length ≤ 1000 ∧ sp [d] M fun e M' => ∃ z : Str, e = .str z ∧ z.length ≤ 100000 ∧ (tupleText [reprText z0, listText [z]]).length ≤ sizeLine ∧ P (.str (tupleText [reprText z0, listText [z]])) M'
instance cb_reprTL {K : PySem.W.Frag} {C : Addr} {sp : DC} : CbD (rReprTL K C (lift sp)) (rReprTLD C sp) := ⟨fun S M H vs ds P Q w hv h k => by
  obtain ⟨z0, d, ns, xs, rfl, hm, l1, q⟩ := h
  match vs, hv with
  | [v], .cons h1 .nil =>
    cases h1 with
    | tup hn hp hs =>
      match hs with
      | .cons (.str _) (.cons h2 .nil) =>
        cases h2 with
        | lst hnl hal hsl =>
          match hsl with
          | .cons h3 .nil =>
            obtain ⟨a, dx, fs', rfl, ha, _, _⟩ := in_get w h3 hm
            refine ⟨_, _, a, dx, fs', z0, rfl, SqT.of hp, ?_, hal, ha, l1, S, M, [d], _, w, .cons h3 .nil, q, fun e S' M' v' H' pe st w' hd => ?_⟩
            · rintro rfl
              first
                | (rw [hp] at hal; cases hal)
                | exact hp.elim (fun e => by rw [e] at hal; cases hal) (fun e => by obtain ⟨_, e⟩ := e; rw [e] at hal; cases hal)
            · obtain ⟨z, rfl, l2, sz, pp⟩ := pe
              cases hd
              refine ⟨z, rfl, ?_, l2, sz, k _ S' M' _ H' pp st w' (.str _)⟩
              obtain ⟨e1, _, _⟩ := st.keep _ _ (w.mn hnl) hal
              exact e1⟩
end V
namespace G
open PySem PySem.Spec PyProof.Rows L2 U V
def top (i : Nat) : Stmt := PySem.Challenge.pw_shownshort_k47_errors_of_names_in_order.main.body.getD i (.Pass ⟨0, 0, 0, 0⟩)
abbrev s_InvalidRule___init__ : Stmt := inClass (top 8) 0
abbrev p_InvalidRule___init__ : List Str := ["self", "value"]
abbrev s_InvalidWidth___init__ : Stmt := inClass (top 9) 0
abbrev p_InvalidWidth___init__ : List Str := ["self", "value"]
abbrev s_InvalidPlace___init__ : Stmt := inClass (top 10) 0
abbrev lv_InvalidPlace___init__ : Nat := 1
abbrev n_InvalidPlace___init__ : List Str := ["self", "value"]
abbrev p_InvalidPlace___init__ : List Str := ["self", "value"]
theorem sc_InvalidPlace___init__ : FnScope n_InvalidPlace___init__ p_InvalidPlace___init__ (L2.defScope s_InvalidPlace___init__) := ⟨rfl, rfl, rfl, by decide +kernel, rfl, by decide +kernel, by decide +kernel⟩
abbrev s_NotANamer___init__ : Stmt := inClass (top 12) 0
abbrev lv_NotANamer___init__ : Nat := 1
abbrev n_NotANamer___init__ : List Str := ["self", "value"]
abbrev p_NotANamer___init__ : List Str := ["self", "value"]
theorem sc_NotANamer___init__ : FnScope n_NotANamer___init__ p_NotANamer___init__ (L2.defScope s_NotANamer___init__) := ⟨rfl, rfl, rfl, by decide +kernel, rfl, by decide +kernel, by decide +kernel⟩
abbrev s_InvalidTexts___init__ : Stmt := inClass (top 16) 0
abbrev lv_InvalidTexts___init__ : Nat := 1
abbrev n_InvalidTexts___init__ : List Str := ["self", "index"]
abbrev p_InvalidTexts___init__ : List Str := ["self", "index"]
theorem sc_InvalidTexts___init__ : FnScope n_InvalidTexts___init__ p_InvalidTexts___init__ (L2.defScope s_InvalidTexts___init__) := ⟨rfl, rfl, rfl, by decide +kernel, rfl, by decide +kernel, by decide +kernel⟩
abbrev s_is_integer : Stmt := top 27
abbrev lv_is_integer : Nat := 1
abbrev n_is_integer : List Str := ["value"]
abbrev p_is_integer : List Str := ["value"]
theorem sc_is_integer : FnScope n_is_integer p_is_integer (L2.defScope s_is_integer) := ⟨rfl, rfl, rfl, by decide +kernel, rfl, by decide +kernel, by decide +kernel⟩
abbrev s_is_text : Stmt := top 28
abbrev lv_is_text : Nat := 1
abbrev n_is_text : List Str := ["value", "most", "sign"]
abbrev p_is_text : List Str := ["value", "most"]
theorem sc_is_text : FnScope n_is_text p_is_text (L2.defScope s_is_text) := ⟨rfl, rfl, rfl, by decide +kernel, rfl, by decide +kernel, by decide +kernel⟩
abbrev s_Namer___init__ : Stmt := inClass (top 33) 0
abbrev lv_Namer___init__ : Nat := 3
abbrev n_Namer___init__ : List Str := ["self", "rule", "width"]
abbrev p_Namer___init__ : List Str := ["self", "rule", "width"]
theorem sc_Namer___init__ : FnScope n_Namer___init__ p_Namer___init__ (L2.defScope s_Namer___init__) := ⟨rfl, rfl, rfl, by decide +kernel, rfl, by decide +kernel, by decide +kernel⟩
abbrev s_Namer_base_of : Stmt := inClass (top 33) 1
abbrev lv_Namer_base_of : Nat := 1
abbrev n_Namer_base_of : List Str := ["self", "text"]
abbrev p_Namer_base_of : List Str := ["self", "text"]
theorem sc_Namer_base_of : FnScope n_Namer_base_of p_Namer_base_of (L2.defScope s_Namer_base_of) := ⟨rfl, rfl, rfl, by decide +kernel, rfl, by decide +kernel, by decide +kernel⟩
abbrev s_Namer_numbered : Stmt := inClass (top 33) 2
abbrev lv_Namer_numbered : Nat := 1
abbrev n_Namer_numbered : List Str := ["self", "base", "number", "ending"]
abbrev p_Namer_numbered : List Str := ["self", "base", "number"]
theorem sc_Namer_numbered : FnScope n_Namer_numbered p_Namer_numbered (L2.defScope s_Namer_numbered) := ⟨rfl, rfl, rfl, by decide +kernel, rfl, by decide +kernel, by decide +kernel⟩
abbrev s_Namer_name_for : Stmt := inClass (top 33) 3
abbrev lv_Namer_name_for : Nat := 2
abbrev n_Namer_name_for : List Str := ["self", "text", "there", "base", "alike", "taken", "number", "mate", "name"]
abbrev p_Namer_name_for : List Str := ["self", "text", "there"]
theorem sc_Namer_name_for : FnScope n_Namer_name_for p_Namer_name_for (L2.defScope s_Namer_name_for) := ⟨rfl, rfl, rfl, by decide +kernel, rfl, by decide +kernel, by decide +kernel⟩
abbrev s_Namer___eq__ : Stmt := inClass (top 33) 4
abbrev p_Namer___eq__ : List Str := ["self", "other"]
abbrev s_Namer___repr__ : Stmt := inClass (top 33) 5
abbrev lv_Namer___repr__ : Nat := 1
abbrev n_Namer___repr__ : List Str := ["self"]
abbrev p_Namer___repr__ : List Str := ["self"]
theorem st_Namer___repr__ (d0 : D) : startD n_Namer___repr__ [d0] = [some d0] := rfl
theorem sc_Namer___repr__ : FnScope n_Namer___repr__ p_Namer___repr__ (L2.defScope s_Namer___repr__) := ⟨rfl, rfl, rfl, by decide +kernel, rfl, by decide +kernel, by decide +kernel⟩
abbrev s_check_namer : Stmt := top 34
abbrev lv_check_namer : Nat := 5
abbrev n_check_namer : List Str := ["value"]
abbrev p_check_namer : List Str := ["value"]
theorem sc_check_namer : FnScope n_check_namer p_check_namer (L2.defScope s_check_namer) := ⟨rfl, rfl, rfl, by decide +kernel, rfl, by decide +kernel, by decide +kernel⟩
abbrev s_check_texts : Stmt := top 35
abbrev lv_check_texts : Nat := 3
abbrev n_check_texts : List Str := ["value", "index", "text"]
abbrev p_check_texts : List Str := ["value"]
theorem sc_check_texts : FnScope n_check_texts p_check_texts (L2.defScope s_check_texts) := ⟨rfl, rfl, rfl, by decide +kernel, rfl, by decide +kernel, by decide +kernel⟩
abbrev s_names_of : Stmt := top 36
abbrev lv_names_of : Nat := 3
abbrev n_names_of : List Str := ["namer", "texts", "there", "text", "name"]
abbrev p_names_of : List Str := ["namer", "texts"]
theorem sc_names_of : FnScope n_names_of p_names_of (L2.defScope s_names_of) := ⟨rfl, rfl, rfl, by decide +kernel, rfl, by decide +kernel, by decide +kernel⟩
abbrev s_orders_of : Stmt := top 37
abbrev lv_orders_of : Nat := 1
abbrev n_orders_of : List Str := ["many", "found", "turn", "order", "place"]
abbrev p_orders_of : List Str := ["many"]
theorem sc_orders_of : FnScope n_orders_of p_orders_of (L2.defScope s_orders_of) := ⟨rfl, rfl, rfl, by decide +kernel, rfl, by decide +kernel, by decide +kernel⟩
abbrev s_names : Stmt := top 38
abbrev lv_names : Nat := 6
abbrev n_names : List Str := ["namer", "texts"]
abbrev p_names : List Str := ["namer", "texts"]
theorem sc_names : FnScope n_names p_names (L2.defScope s_names) := ⟨rfl, rfl, rfl, by decide +kernel, rfl, by decide +kernel, by decide +kernel⟩
abbrev s_meeting : Stmt := top 39
abbrev lv_meeting : Nat := 6
abbrev n_meeting : List Str := ["namer", "texts", "order", "place"]
abbrev p_meeting : List Str := ["namer", "texts"]
theorem sc_meeting : FnScope n_meeting p_meeting (L2.defScope s_meeting) := ⟨rfl, rfl, rfl, by decide +kernel, rfl, by decide +kernel, by decide +kernel⟩
abbrev s_possible_names : Stmt := top 40
abbrev lv_possible_names : Nat := 6
abbrev n_possible_names : List Str := ["namer", "texts", "place", "found", "order", "given", "each"]
abbrev p_possible_names : List Str := ["namer", "texts", "place"]
theorem sc_possible_names : FnScope n_possible_names p_possible_names (L2.defScope s_possible_names) := ⟨rfl, rfl, rfl, by decide +kernel, rfl, by decide +kernel, by decide +kernel⟩
abbrev s__law_source : Stmt := top 42
abbrev lv__law_source : Nat := 1
abbrev n__law_source : List Str := ["_law_cells", "_law_turn", "_law_mixed", "_law_cell", "_law_own"]
abbrev p__law_source : List Str := ["_law_cells", "_law_turn"]
theorem sc__law_source : FnScope n__law_source p__law_source (L2.defScope s__law_source) := ⟨rfl, rfl, rfl, by decide +kernel, rfl, by decide +kernel, by decide +kernel⟩
abbrev s__law_draw : Stmt := top 43
abbrev lv__law_draw : Nat := 1
abbrev n__law_draw : List Str := ["_law_source_here", "_law_size", "_law_digit", "_law_state", "_law_factor"]
abbrev p__law_draw : List Str := ["_law_source_here", "_law_size"]
theorem sc__law_draw : FnScope n__law_draw p__law_draw (L2.defScope s__law_draw) := ⟨rfl, rfl, rfl, by decide +kernel, rfl, by decide +kernel, by decide +kernel⟩
abbrev s__law_one : Stmt := top 44
abbrev lv__law_one : Nat := 2
abbrev n__law_one : List Str := ["_law_source_here", "_law_some"]
abbrev p__law_one : List Str := ["_law_source_here", "_law_some"]
theorem sc__law_one : FnScope n__law_one p__law_one (L2.defScope s__law_one) := ⟨rfl, rfl, rfl, by decide +kernel, rfl, by decide +kernel, by decide +kernel⟩
abbrev s__law_stem : Stmt := top 45
abbrev lv__law_stem : Nat := 2
abbrev n__law_stem : List Str := ["_law_source_here", "_law_size", "_law_abc", "_law_k"]
abbrev p__law_stem : List Str := ["_law_source_here", "_law_size"]
theorem sc__law_stem : FnScope n__law_stem p__law_stem (L2.defScope s__law_stem) := ⟨rfl, rfl, rfl, by decide +kernel, rfl, by decide +kernel, by decide +kernel⟩
abbrev s__law_refusal : Stmt := top 46
abbrev lv__law_refusal : Nat := 8
abbrev n__law_refusal : List Str := ["_law_e", "_law_rows", "_law_under", "_law_plain", "_law_at", "_law_words"]
abbrev p__law_refusal : List Str := ["_law_e"]
theorem st__law_refusal (d0 : D) : startD n__law_refusal [d0] = [some d0, none, none, none, none, none] := rfl
theorem sc__law_refusal : FnScope n__law_refusal p__law_refusal (L2.defScope s__law_refusal) := ⟨rfl, rfl, rfl, by decide +kernel, rfl, by decide +kernel, by decide +kernel⟩
abbrev s__law_tried : Stmt := top 47
abbrev n__law_tried : List Str := ["_law_act", "_law_told", "_law_e"]
abbrev p__law_tried : List Str := ["_law_act"]
theorem sc__law_tried : FnScope n__law_tried p__law_tried (L2.defScope s__law_tried) := ⟨rfl, rfl, rfl, by decide +kernel, rfl, by decide +kernel, by decide +kernel⟩
abbrev s__law_is : Stmt := top 48
abbrev lv__law_is : Nat := 8
abbrev n__law_is : List Str := ["_law_told", "_law_due_here"]
abbrev p__law_is : List Str := ["_law_told", "_law_due_here"]
theorem st__law_is (d0 d1 : D) : startD n__law_is [d0, d1] = [some d0, some d1] := rfl
theorem sc__law_is : FnScope n__law_is p__law_is (L2.defScope s__law_is) := ⟨rfl, rfl, rfl, by decide +kernel, rfl, by decide +kernel, by decide +kernel⟩
abbrev s__law_is_text : Stmt := top 49
abbrev lv__law_is_text : Nat := 8
abbrev n__law_is_text : List Str := ["_law_thing", "_law_abc", "_law_x"]
abbrev p__law_is_text : List Str := ["_law_thing"]
theorem st__law_is_text (d0 : D) : startD n__law_is_text [d0] = [some d0, none, none] := rfl
theorem sc__law_is_text : FnScope n__law_is_text p__law_is_text (L2.defScope s__law_is_text) := ⟨rfl, rfl, rfl, by decide +kernel, rfl, by decide +kernel, by decide +kernel⟩
abbrev s__law_odd : Stmt := top 50
abbrev lv__law_odd : Nat := 3
abbrev n__law_odd : List Str := ["_law_source_here", "_law_some"]
abbrev p__law_odd : List Str := ["_law_source_here"]
theorem st__law_odd (d0 : D) : startD n__law_odd [d0] = [some d0, none] := rfl
theorem sc__law_odd : FnScope n__law_odd p__law_odd (L2.defScope s__law_odd) := ⟨rfl, rfl, rfl, by decide +kernel, rfl, by decide +kernel, by decide +kernel⟩
abbrev s__law_line : Stmt := top 51
abbrev lv__law_line : Nat := 8
abbrev n__law_line : List Str := ["_law_source_here", "_law_line_here", "_law_way", "_law_spot", "_law_k"]
abbrev p__law_line : List Str := ["_law_source_here"]
theorem st__law_line (d0 : D) : startD n__law_line [d0] = [some d0, none, none, none, none] := rfl
theorem sc__law_line : FnScope n__law_line p__law_line (L2.defScope s__law_line) := ⟨rfl, rfl, rfl, by decide +kernel, rfl, by decide +kernel, by decide +kernel⟩
abbrev s__law_due : Stmt := top 52
abbrev lv__law_due : Nat := 9
abbrev n__law_due : List Str := ["_law_line_here", "_law_wrong", "_law_k"]
abbrev p__law_due : List Str := ["_law_line_here"]
theorem st__law_due (d0 : D) : startD n__law_due [d0] = [some d0, none, none] := rfl
theorem sc__law_due : FnScope n__law_due p__law_due (L2.defScope s__law_due) := ⟨rfl, rfl, rfl, by decide +kernel, rfl, by decide +kernel, by decide +kernel⟩
abbrev s__law_fits : Stmt := top 53
abbrev lv__law_fits : Nat := 9
abbrev n__law_fits : List Str := ["_law_told", "_law_due_here"]
abbrev p__law_fits : List Str := ["_law_told", "_law_due_here"]
theorem st__law_fits (d0 d1 : D) : startD n__law_fits [d0, d1] = [some d0, some d1] := rfl
theorem sc__law_fits : FnScope n__law_fits p__law_fits (L2.defScope s__law_fits) := ⟨rfl, rfl, rfl, by decide +kernel, rfl, by decide +kernel, by decide +kernel⟩
abbrev s__law_right : Stmt := top 54
abbrev lv__law_right : Nat := 10
abbrev n__law_right : List Str := ["_law_source_here", "_law_turn", "_law_mine", "_law_none", "_law_line_here", "_law_due_here", "_law_at", "_law_last", "_law_is_count", "_law_told", "_law_each"]
abbrev p__law_right : List Str := ["_law_source_here"]
theorem st__law_right (d0 : D) : startD n__law_right [d0] = [some d0, none, none, none, none, none, none, none, none, none, none] := rfl
theorem sc__law_right : FnScope n__law_right p__law_right (L2.defScope s__law_right) := ⟨rfl, rfl, rfl, by decide +kernel, rfl, by decide +kernel, by decide +kernel⟩
abbrev s_law : Stmt := top 55
abbrev lv_law : Nat := 11
abbrev n_law : List Str := ["_law_script", "_law_k"]
abbrev p_law : List Str := ["_law_script"]
theorem st_law (d0 : D) : startD n_law [d0] = [some d0, none] := rfl
theorem sc_law : FnScope n_law p_law (L2.defScope s_law) := ⟨rfl, rfl, rfl, by decide +kernel, rfl, by decide +kernel, by decide +kernel⟩
structure Tx (K : PySem.W.Frag) (mg : Str → Option Value) where
  n_ArithmeticError : mg "ArithmeticError" = none
  n_LookupError : mg "LookupError" = none
  n_ValueError : mg "ValueError" = none
  n_abs : mg "abs" = none
  n_all : mg "all" = none
  n_bool : mg "bool" = none
  n_divmod : mg "divmod" = none
  n_enumerate : mg "enumerate" = none
  n_int : mg "int" = none
  n_isinstance : mg "isinstance" = none
  n_len : mg "len" = none
  n_list : mg "list" = none
  n_max : mg "max" = none
  n_min : mg "min" = none
  n_range : mg "range" = none
  n_repr : mg "repr" = none
  n_set : mg "set" = none
  n_sorted : mg "sorted" = none
  n_str : mg "str" = none
  n_tuple : mg "tuple" = none
  k_MOST_SIGNS : ∃ u, mg "MOST_SIGNS" = some u ∧ RelV (.int 40) u
  k_MOST_TEXT : ∃ u, mg "MOST_TEXT" = some u ∧ RelV (.int 200) u
  k_MOST_LISTED : ∃ u, mg "MOST_LISTED" = some u ∧ RelV (.int 6) u
  k_SIGNS : ∃ u, mg "SIGNS" = some u ∧ RelV (.str (PySem.Str.ofString ".0123456789abcdefghijklmnopqrstuvwxyz~")) u
  a_RULES : Addr
  m_RULES : mg "RULES" = some (.ref a_RULES)
  q_RULES : ∀ H : Hp, SqT K H a_RULES [.str (PySem.Str.ofString "count"), .str (PySem.Str.ofString "free"), .str (PySem.Str.ofString "tight")]
  k_LEAST_WIDTH : ∃ u, mg "LEAST_WIDTH" = some u ∧ RelV (.int 6) u
  k_FIRST_NUMBER : ∃ u, mg "FIRST_NUMBER" = some u ∧ RelV (.int 2) u
  C_InputError : Addr
  m_InputError : mg "InputError" = some (.ref C_InputError)
  C_StateError : Addr
  m_StateError : mg "StateError" = some (.ref C_StateError)
  C_SizeError : Addr
  m_SizeError : mg "SizeError" = some (.ref C_SizeError)
  C_InvalidNumber : Addr
  m_InvalidNumber : mg "InvalidNumber" = some (.ref C_InvalidNumber)
  C_InvalidMark : Addr
  m_InvalidMark : mg "InvalidMark" = some (.ref C_InvalidMark)
  C_InvalidText : Addr
  m_InvalidText : mg "InvalidText" = some (.ref C_InvalidText)
  C_InvalidLength : Addr
  m_InvalidLength : mg "InvalidLength" = some (.ref C_InvalidLength)
  C_InvalidRule : Addr
  m_InvalidRule : mg "InvalidRule" = some (.ref C_InvalidRule)
  C_InvalidWidth : Addr
  m_InvalidWidth : mg "InvalidWidth" = some (.ref C_InvalidWidth)
  C_InvalidPlace : Addr
  m_InvalidPlace : mg "InvalidPlace" = some (.ref C_InvalidPlace)
  C_InvalidLine : Addr
  m_InvalidLine : mg "InvalidLine" = some (.ref C_InvalidLine)
  C_NotANamer : Addr
  m_NotANamer : mg "NotANamer" = some (.ref C_NotANamer)
  C_NotAShelf : Addr
  m_NotAShelf : mg "NotAShelf" = some (.ref C_NotAShelf)
  C_InvalidRow : Addr
  m_InvalidRow : mg "InvalidRow" = some (.ref C_InvalidRow)
  C_InvalidViews : Addr
  m_InvalidViews : mg "InvalidViews" = some (.ref C_InvalidViews)
  C_InvalidTexts : Addr
  m_InvalidTexts : mg "InvalidTexts" = some (.ref C_InvalidTexts)
  C_InvalidDeeds : Addr
  m_InvalidDeeds : mg "InvalidDeeds" = some (.ref C_InvalidDeeds)
  C_NothingToUndo : Addr
  m_NothingToUndo : mg "NothingToUndo" = some (.ref C_NothingToUndo)
  C_Busy : Addr
  m_Busy : mg "Busy" = some (.ref C_Busy)
  C_UnknownName : Addr
  m_UnknownName : mg "UnknownName" = some (.ref C_UnknownName)
  C_TooMany : Addr
  m_TooMany : mg "TooMany" = some (.ref C_TooMany)
  o_InvalidRule : L2.OexC K C_InvalidRule
  na_InvalidRule_value : PySem.W.findIn K (.ref C_InvalidRule) "value" = some none
  f_InvalidRule___init__ : Addr
  d_InvalidRule___init__ : FuncData
  F_InvalidRule___init__ : L2.Fun K "__init__" "InvalidRule.__init__" s_InvalidRule___init__ f_InvalidRule___init__ d_InvalidRule___init__
  b_InvalidRule___init__ : Binds K d_InvalidRule___init__ p_InvalidRule___init__ []
  i_InvalidRule : PySem.W.findIn K (.ref C_InvalidRule) "__init__" = some (some (.ref f_InvalidRule___init__))
  j_InvalidRule : PySem.W.typeIn K (.ref f_InvalidRule___init__) = some (.type "function")
  o_InvalidWidth : L2.OexC K C_InvalidWidth
  na_InvalidWidth_value : PySem.W.findIn K (.ref C_InvalidWidth) "value" = some none
  f_InvalidWidth___init__ : Addr
  d_InvalidWidth___init__ : FuncData
  F_InvalidWidth___init__ : L2.Fun K "__init__" "InvalidWidth.__init__" s_InvalidWidth___init__ f_InvalidWidth___init__ d_InvalidWidth___init__
  b_InvalidWidth___init__ : Binds K d_InvalidWidth___init__ p_InvalidWidth___init__ []
  i_InvalidWidth : PySem.W.findIn K (.ref C_InvalidWidth) "__init__" = some (some (.ref f_InvalidWidth___init__))
  j_InvalidWidth : PySem.W.typeIn K (.ref f_InvalidWidth___init__) = some (.type "function")
  o_InvalidPlace : L2.OexC K C_InvalidPlace
  na_InvalidPlace_value : PySem.W.findIn K (.ref C_InvalidPlace) "value" = some none
  f_InvalidPlace___init__ : Addr
  d_InvalidPlace___init__ : FuncData
  F_InvalidPlace___init__ : L2.Fun K "__init__" "InvalidPlace.__init__" s_InvalidPlace___init__ f_InvalidPlace___init__ d_InvalidPlace___init__
  b_InvalidPlace___init__ : Binds K d_InvalidPlace___init__ p_InvalidPlace___init__ []
  i_InvalidPlace : PySem.W.findIn K (.ref C_InvalidPlace) "__init__" = some (some (.ref f_InvalidPlace___init__))
  j_InvalidPlace : PySem.W.typeIn K (.ref f_InvalidPlace___init__) = some (.type "function")
  o_NotANamer : L2.OexC K C_NotANamer
  na_NotANamer_value : PySem.W.findIn K (.ref C_NotANamer) "value" = some none
  f_NotANamer___init__ : Addr
  d_NotANamer___init__ : FuncData
  F_NotANamer___init__ : L2.Fun K "__init__" "NotANamer.__init__" s_NotANamer___init__ f_NotANamer___init__ d_NotANamer___init__
  b_NotANamer___init__ : Binds K d_NotANamer___init__ p_NotANamer___init__ []
  i_NotANamer : PySem.W.findIn K (.ref C_NotANamer) "__init__" = some (some (.ref f_NotANamer___init__))
  j_NotANamer : PySem.W.typeIn K (.ref f_NotANamer___init__) = some (.type "function")
  o_InvalidTexts : L2.OexC K C_InvalidTexts
  na_InvalidTexts_index : PySem.W.findIn K (.ref C_InvalidTexts) "index" = some none
  f_InvalidTexts___init__ : Addr
  d_InvalidTexts___init__ : FuncData
  F_InvalidTexts___init__ : L2.Fun K "__init__" "InvalidTexts.__init__" s_InvalidTexts___init__ f_InvalidTexts___init__ d_InvalidTexts___init__
  b_InvalidTexts___init__ : Binds K d_InvalidTexts___init__ p_InvalidTexts___init__ []
  i_InvalidTexts : PySem.W.findIn K (.ref C_InvalidTexts) "__init__" = some (some (.ref f_InvalidTexts___init__))
  j_InvalidTexts : PySem.W.typeIn K (.ref f_InvalidTexts___init__) = some (.type "function")
  xf_InvalidRule : XfC K C_InvalidRule
  ex_InvalidRule : L2.ExcC K C_InvalidRule
  kr_InvalidRule_0 : PySem.W.kitOne K (.ref C_InvalidRule) (.ref C_InvalidNumber) = some false
  kr_InvalidRule_1 : PySem.W.kitOne K (.ref C_InvalidRule) (.ref C_InvalidMark) = some false
  kr_InvalidRule_2 : PySem.W.kitOne K (.ref C_InvalidRule) (.ref C_InvalidText) = some false
  kr_InvalidRule_3 : PySem.W.kitOne K (.ref C_InvalidRule) (.ref C_InvalidLength) = some false
  kr_InvalidRule_4 : PySem.W.kitOne K (.ref C_InvalidRule) (.ref C_InvalidRule) = some true
  kr_InvalidRule_5 : PySem.W.kitOne K (.ref C_InvalidRule) (.ref C_InvalidWidth) = some false
  kr_InvalidRule_6 : PySem.W.kitOne K (.ref C_InvalidRule) (.ref C_InvalidPlace) = some false
  kr_InvalidRule_7 : PySem.W.kitOne K (.ref C_InvalidRule) (.ref C_InvalidLine) = some false
  kr_InvalidRule_8 : PySem.W.kitOne K (.ref C_InvalidRule) (.ref C_NotANamer) = some false
  kr_InvalidRule_9 : PySem.W.kitOne K (.ref C_InvalidRule) (.ref C_NotAShelf) = some false
  kr_InvalidRule_10 : PySem.W.kitOne K (.ref C_InvalidRule) (.ref C_InvalidRow) = some false
  kr_InvalidRule_11 : PySem.W.kitOne K (.ref C_InvalidRule) (.ref C_InvalidViews) = some false
  kr_InvalidRule_12 : PySem.W.kitOne K (.ref C_InvalidRule) (.ref C_InvalidTexts) = some false
  kr_InvalidRule_13 : PySem.W.kitOne K (.ref C_InvalidRule) (.ref C_InvalidDeeds) = some false
  kr_InvalidRule_14 : PySem.W.kitOne K (.ref C_InvalidRule) (.ref C_NothingToUndo) = some false
  kr_InvalidRule_15 : PySem.W.kitOne K (.ref C_InvalidRule) (.ref C_Busy) = some false
  kr_InvalidRule_16 : PySem.W.kitOne K (.ref C_InvalidRule) (.ref C_UnknownName) = some false
  kr_InvalidRule_17 : PySem.W.kitOne K (.ref C_InvalidRule) (.ref C_TooMany) = some false
  kr_InvalidRule_18 : PySem.W.kitOne K (.ref C_InvalidRule) (.ref C_InputError) = some true
  kr_InvalidRule_19 : PySem.W.kitOne K (.ref C_InvalidRule) (.ref C_StateError) = some false
  kr_InvalidRule_20 : PySem.W.kitOne K (.ref C_InvalidRule) (.ref C_SizeError) = some false
  kr_InvalidRule_21 : PySem.W.kitOne K (.ref C_InvalidRule) (.type "ValueError") = some true
  kr_InvalidRule_22 : PySem.W.kitOne K (.ref C_InvalidRule) (.type "LookupError") = some false
  kr_InvalidRule_23 : PySem.W.kitOne K (.ref C_InvalidRule) (.type "ArithmeticError") = some false
  xf_InvalidWidth : XfC K C_InvalidWidth
  ex_InvalidWidth : L2.ExcC K C_InvalidWidth
  kr_InvalidWidth_0 : PySem.W.kitOne K (.ref C_InvalidWidth) (.ref C_InvalidNumber) = some false
  kr_InvalidWidth_1 : PySem.W.kitOne K (.ref C_InvalidWidth) (.ref C_InvalidMark) = some false
  kr_InvalidWidth_2 : PySem.W.kitOne K (.ref C_InvalidWidth) (.ref C_InvalidText) = some false
  kr_InvalidWidth_3 : PySem.W.kitOne K (.ref C_InvalidWidth) (.ref C_InvalidLength) = some false
  kr_InvalidWidth_4 : PySem.W.kitOne K (.ref C_InvalidWidth) (.ref C_InvalidRule) = some false
  kr_InvalidWidth_5 : PySem.W.kitOne K (.ref C_InvalidWidth) (.ref C_InvalidWidth) = some true
  kr_InvalidWidth_6 : PySem.W.kitOne K (.ref C_InvalidWidth) (.ref C_InvalidPlace) = some false
  kr_InvalidWidth_7 : PySem.W.kitOne K (.ref C_InvalidWidth) (.ref C_InvalidLine) = some false
  kr_InvalidWidth_8 : PySem.W.kitOne K (.ref C_InvalidWidth) (.ref C_NotANamer) = some false
  kr_InvalidWidth_9 : PySem.W.kitOne K (.ref C_InvalidWidth) (.ref C_NotAShelf) = some false
  kr_InvalidWidth_10 : PySem.W.kitOne K (.ref C_InvalidWidth) (.ref C_InvalidRow) = some false
  kr_InvalidWidth_11 : PySem.W.kitOne K (.ref C_InvalidWidth) (.ref C_InvalidViews) = some false
  kr_InvalidWidth_12 : PySem.W.kitOne K (.ref C_InvalidWidth) (.ref C_InvalidTexts) = some false
  kr_InvalidWidth_13 : PySem.W.kitOne K (.ref C_InvalidWidth) (.ref C_InvalidDeeds) = some false
  kr_InvalidWidth_14 : PySem.W.kitOne K (.ref C_InvalidWidth) (.ref C_NothingToUndo) = some false
  kr_InvalidWidth_15 : PySem.W.kitOne K (.ref C_InvalidWidth) (.ref C_Busy) = some false
  kr_InvalidWidth_16 : PySem.W.kitOne K (.ref C_InvalidWidth) (.ref C_UnknownName) = some false
  kr_InvalidWidth_17 : PySem.W.kitOne K (.ref C_InvalidWidth) (.ref C_TooMany) = some false
  kr_InvalidWidth_18 : PySem.W.kitOne K (.ref C_InvalidWidth) (.ref C_InputError) = some true
  kr_InvalidWidth_19 : PySem.W.kitOne K (.ref C_InvalidWidth) (.ref C_StateError) = some false
  kr_InvalidWidth_20 : PySem.W.kitOne K (.ref C_InvalidWidth) (.ref C_SizeError) = some false
  kr_InvalidWidth_21 : PySem.W.kitOne K (.ref C_InvalidWidth) (.type "ValueError") = some true
  kr_InvalidWidth_22 : PySem.W.kitOne K (.ref C_InvalidWidth) (.type "LookupError") = some false
  kr_InvalidWidth_23 : PySem.W.kitOne K (.ref C_InvalidWidth) (.type "ArithmeticError") = some false
  xf_NotANamer : XfC K C_NotANamer
  ex_NotANamer : L2.ExcC K C_NotANamer
  kr_NotANamer_0 : PySem.W.kitOne K (.ref C_NotANamer) (.ref C_InvalidNumber) = some false
  kr_NotANamer_1 : PySem.W.kitOne K (.ref C_NotANamer) (.ref C_InvalidMark) = some false
  kr_NotANamer_2 : PySem.W.kitOne K (.ref C_NotANamer) (.ref C_InvalidText) = some false
  kr_NotANamer_3 : PySem.W.kitOne K (.ref C_NotANamer) (.ref C_InvalidLength) = some false
  kr_NotANamer_4 : PySem.W.kitOne K (.ref C_NotANamer) (.ref C_InvalidRule) = some false
  kr_NotANamer_5 : PySem.W.kitOne K (.ref C_NotANamer) (.ref C_InvalidWidth) = some false
  kr_NotANamer_6 : PySem.W.kitOne K (.ref C_NotANamer) (.ref C_InvalidPlace) = some false
  kr_NotANamer_7 : PySem.W.kitOne K (.ref C_NotANamer) (.ref C_InvalidLine) = some false
  kr_NotANamer_8 : PySem.W.kitOne K (.ref C_NotANamer) (.ref C_NotANamer) = some true
  kr_NotANamer_9 : PySem.W.kitOne K (.ref C_NotANamer) (.ref C_NotAShelf) = some false
  kr_NotANamer_10 : PySem.W.kitOne K (.ref C_NotANamer) (.ref C_InvalidRow) = some false
  kr_NotANamer_11 : PySem.W.kitOne K (.ref C_NotANamer) (.ref C_InvalidViews) = some false
  kr_NotANamer_12 : PySem.W.kitOne K (.ref C_NotANamer) (.ref C_InvalidTexts) = some false
  kr_NotANamer_13 : PySem.W.kitOne K (.ref C_NotANamer) (.ref C_InvalidDeeds) = some false
  kr_NotANamer_14 : PySem.W.kitOne K (.ref C_NotANamer) (.ref C_NothingToUndo) = some false
  kr_NotANamer_15 : PySem.W.kitOne K (.ref C_NotANamer) (.ref C_Busy) = some false
  kr_NotANamer_16 : PySem.W.kitOne K (.ref C_NotANamer) (.ref C_UnknownName) = some false
  kr_NotANamer_17 : PySem.W.kitOne K (.ref C_NotANamer) (.ref C_TooMany) = some false
  kr_NotANamer_18 : PySem.W.kitOne K (.ref C_NotANamer) (.ref C_InputError) = some true
  kr_NotANamer_19 : PySem.W.kitOne K (.ref C_NotANamer) (.ref C_StateError) = some false
  kr_NotANamer_20 : PySem.W.kitOne K (.ref C_NotANamer) (.ref C_SizeError) = some false
  kr_NotANamer_21 : PySem.W.kitOne K (.ref C_NotANamer) (.type "ValueError") = some true
  kr_NotANamer_22 : PySem.W.kitOne K (.ref C_NotANamer) (.type "LookupError") = some false
  kr_NotANamer_23 : PySem.W.kitOne K (.ref C_NotANamer) (.type "ArithmeticError") = some false
  xf_InvalidTexts : XfC K C_InvalidTexts
  ex_InvalidTexts : L2.ExcC K C_InvalidTexts
  kr_InvalidTexts_0 : PySem.W.kitOne K (.ref C_InvalidTexts) (.ref C_InvalidNumber) = some false
  kr_InvalidTexts_1 : PySem.W.kitOne K (.ref C_InvalidTexts) (.ref C_InvalidMark) = some false
  kr_InvalidTexts_2 : PySem.W.kitOne K (.ref C_InvalidTexts) (.ref C_InvalidText) = some false
  kr_InvalidTexts_3 : PySem.W.kitOne K (.ref C_InvalidTexts) (.ref C_InvalidLength) = some false
  kr_InvalidTexts_4 : PySem.W.kitOne K (.ref C_InvalidTexts) (.ref C_InvalidRule) = some false
  kr_InvalidTexts_5 : PySem.W.kitOne K (.ref C_InvalidTexts) (.ref C_InvalidWidth) = some false
  kr_InvalidTexts_6 : PySem.W.kitOne K (.ref C_InvalidTexts) (.ref C_InvalidPlace) = some false
  kr_InvalidTexts_7 : PySem.W.kitOne K (.ref C_InvalidTexts) (.ref C_InvalidLine) = some false
  kr_InvalidTexts_8 : PySem.W.kitOne K (.ref C_InvalidTexts) (.ref C_NotANamer) = some false
  kr_InvalidTexts_9 : PySem.W.kitOne K (.ref C_InvalidTexts) (.ref C_NotAShelf) = some false
  kr_InvalidTexts_10 : PySem.W.kitOne K (.ref C_InvalidTexts) (.ref C_InvalidRow) = some false
  kr_InvalidTexts_11 : PySem.W.kitOne K (.ref C_InvalidTexts) (.ref C_InvalidViews) = some false
  kr_InvalidTexts_12 : PySem.W.kitOne K (.ref C_InvalidTexts) (.ref C_InvalidTexts) = some true
  kr_InvalidTexts_13 : PySem.W.kitOne K (.ref C_InvalidTexts) (.ref C_InvalidDeeds) = some false
  kr_InvalidTexts_14 : PySem.W.kitOne K (.ref C_InvalidTexts) (.ref C_NothingToUndo) = some false
  kr_InvalidTexts_15 : PySem.W.kitOne K (.ref C_InvalidTexts) (.ref C_Busy) = some false
  kr_InvalidTexts_16 : PySem.W.kitOne K (.ref C_InvalidTexts) (.ref C_UnknownName) = some false
  kr_InvalidTexts_17 : PySem.W.kitOne K (.ref C_InvalidTexts) (.ref C_TooMany) = some false
  kr_InvalidTexts_18 : PySem.W.kitOne K (.ref C_InvalidTexts) (.ref C_InputError) = some true
  kr_InvalidTexts_19 : PySem.W.kitOne K (.ref C_InvalidTexts) (.ref C_StateError) = some false
  kr_InvalidTexts_20 : PySem.W.kitOne K (.ref C_InvalidTexts) (.ref C_SizeError) = some false
  kr_InvalidTexts_21 : PySem.W.kitOne K (.ref C_InvalidTexts) (.type "ValueError") = some true
  kr_InvalidTexts_22 : PySem.W.kitOne K (.ref C_InvalidTexts) (.type "LookupError") = some false
  kr_InvalidTexts_23 : PySem.W.kitOne K (.ref C_InvalidTexts) (.type "ArithmeticError") = some false
  xf_InvalidPlace : XfC K C_InvalidPlace
  ex_InvalidPlace : L2.ExcC K C_InvalidPlace
  kr_InvalidPlace_0 : PySem.W.kitOne K (.ref C_InvalidPlace) (.ref C_InvalidNumber) = some false
  kr_InvalidPlace_1 : PySem.W.kitOne K (.ref C_InvalidPlace) (.ref C_InvalidMark) = some false
  kr_InvalidPlace_2 : PySem.W.kitOne K (.ref C_InvalidPlace) (.ref C_InvalidText) = some false
  kr_InvalidPlace_3 : PySem.W.kitOne K (.ref C_InvalidPlace) (.ref C_InvalidLength) = some false
  kr_InvalidPlace_4 : PySem.W.kitOne K (.ref C_InvalidPlace) (.ref C_InvalidRule) = some false
  kr_InvalidPlace_5 : PySem.W.kitOne K (.ref C_InvalidPlace) (.ref C_InvalidWidth) = some false
  kr_InvalidPlace_6 : PySem.W.kitOne K (.ref C_InvalidPlace) (.ref C_InvalidPlace) = some true
  kr_InvalidPlace_7 : PySem.W.kitOne K (.ref C_InvalidPlace) (.ref C_InvalidLine) = some false
  kr_InvalidPlace_8 : PySem.W.kitOne K (.ref C_InvalidPlace) (.ref C_NotANamer) = some false
  kr_InvalidPlace_9 : PySem.W.kitOne K (.ref C_InvalidPlace) (.ref C_NotAShelf) = some false
  kr_InvalidPlace_10 : PySem.W.kitOne K (.ref C_InvalidPlace) (.ref C_InvalidRow) = some false
  kr_InvalidPlace_11 : PySem.W.kitOne K (.ref C_InvalidPlace) (.ref C_InvalidViews) = some false
  kr_InvalidPlace_12 : PySem.W.kitOne K (.ref C_InvalidPlace) (.ref C_InvalidTexts) = some false
  kr_InvalidPlace_13 : PySem.W.kitOne K (.ref C_InvalidPlace) (.ref C_InvalidDeeds) = some false
  kr_InvalidPlace_14 : PySem.W.kitOne K (.ref C_InvalidPlace) (.ref C_NothingToUndo) = some false
  kr_InvalidPlace_15 : PySem.W.kitOne K (.ref C_InvalidPlace) (.ref C_Busy) = some false
  kr_InvalidPlace_16 : PySem.W.kitOne K (.ref C_InvalidPlace) (.ref C_UnknownName) = some false
  kr_InvalidPlace_17 : PySem.W.kitOne K (.ref C_InvalidPlace) (.ref C_TooMany) = some false
  kr_InvalidPlace_18 : PySem.W.kitOne K (.ref C_InvalidPlace) (.ref C_InputError) = some true
  kr_InvalidPlace_19 : PySem.W.kitOne K (.ref C_InvalidPlace) (.ref C_StateError) = some false
  kr_InvalidPlace_20 : PySem.W.kitOne K (.ref C_InvalidPlace) (.ref C_SizeError) = some false
  kr_InvalidPlace_21 : PySem.W.kitOne K (.ref C_InvalidPlace) (.type "ValueError") = some true
  kr_InvalidPlace_22 : PySem.W.kitOne K (.ref C_InvalidPlace) (.type "LookupError") = some false
  kr_InvalidPlace_23 : PySem.W.kitOne K (.ref C_InvalidPlace) (.type "ArithmeticError") = some false
  eh_InputError_InputError : PySem.W.exmOne K (.ref C_InputError) (.ref C_InputError) = some true
  eh_StateError_InputError : PySem.W.exmOne K (.ref C_StateError) (.ref C_InputError) = some false
  eh_SizeError_InputError : PySem.W.exmOne K (.ref C_SizeError) (.ref C_InputError) = some false
  eh_InvalidNumber_InputError : PySem.W.exmOne K (.ref C_InvalidNumber) (.ref C_InputError) = some true
  eh_InvalidMark_InputError : PySem.W.exmOne K (.ref C_InvalidMark) (.ref C_InputError) = some true
  eh_InvalidText_InputError : PySem.W.exmOne K (.ref C_InvalidText) (.ref C_InputError) = some true
  eh_InvalidLength_InputError : PySem.W.exmOne K (.ref C_InvalidLength) (.ref C_InputError) = some true
  eh_InvalidRule_InputError : PySem.W.exmOne K (.ref C_InvalidRule) (.ref C_InputError) = some true
  eh_InvalidWidth_InputError : PySem.W.exmOne K (.ref C_InvalidWidth) (.ref C_InputError) = some true
  eh_InvalidPlace_InputError : PySem.W.exmOne K (.ref C_InvalidPlace) (.ref C_InputError) = some true
  eh_InvalidLine_InputError : PySem.W.exmOne K (.ref C_InvalidLine) (.ref C_InputError) = some true
  eh_NotANamer_InputError : PySem.W.exmOne K (.ref C_NotANamer) (.ref C_InputError) = some true
  eh_NotAShelf_InputError : PySem.W.exmOne K (.ref C_NotAShelf) (.ref C_InputError) = some true
  eh_InvalidRow_InputError : PySem.W.exmOne K (.ref C_InvalidRow) (.ref C_InputError) = some true
  eh_InvalidViews_InputError : PySem.W.exmOne K (.ref C_InvalidViews) (.ref C_InputError) = some true
  eh_InvalidTexts_InputError : PySem.W.exmOne K (.ref C_InvalidTexts) (.ref C_InputError) = some true
  eh_InvalidDeeds_InputError : PySem.W.exmOne K (.ref C_InvalidDeeds) (.ref C_InputError) = some true
  eh_NothingToUndo_InputError : PySem.W.exmOne K (.ref C_NothingToUndo) (.ref C_InputError) = some false
  eh_Busy_InputError : PySem.W.exmOne K (.ref C_Busy) (.ref C_InputError) = some false
  eh_UnknownName_InputError : PySem.W.exmOne K (.ref C_UnknownName) (.ref C_InputError) = some false
  eh_TooMany_InputError : PySem.W.exmOne K (.ref C_TooMany) (.ref C_InputError) = some false
  eh_InputError_SizeError : PySem.W.exmOne K (.ref C_InputError) (.ref C_SizeError) = some false
  eh_StateError_SizeError : PySem.W.exmOne K (.ref C_StateError) (.ref C_SizeError) = some false
  eh_SizeError_SizeError : PySem.W.exmOne K (.ref C_SizeError) (.ref C_SizeError) = some true
  eh_InvalidNumber_SizeError : PySem.W.exmOne K (.ref C_InvalidNumber) (.ref C_SizeError) = some false
  eh_InvalidMark_SizeError : PySem.W.exmOne K (.ref C_InvalidMark) (.ref C_SizeError) = some false
  eh_InvalidText_SizeError : PySem.W.exmOne K (.ref C_InvalidText) (.ref C_SizeError) = some false
  eh_InvalidLength_SizeError : PySem.W.exmOne K (.ref C_InvalidLength) (.ref C_SizeError) = some false
  eh_InvalidRule_SizeError : PySem.W.exmOne K (.ref C_InvalidRule) (.ref C_SizeError) = some false
  eh_InvalidWidth_SizeError : PySem.W.exmOne K (.ref C_InvalidWidth) (.ref C_SizeError) = some false
  eh_InvalidPlace_SizeError : PySem.W.exmOne K (.ref C_InvalidPlace) (.ref C_SizeError) = some false
  eh_InvalidLine_SizeError : PySem.W.exmOne K (.ref C_InvalidLine) (.ref C_SizeError) = some false
  eh_NotANamer_SizeError : PySem.W.exmOne K (.ref C_NotANamer) (.ref C_SizeError) = some false
  eh_NotAShelf_SizeError : PySem.W.exmOne K (.ref C_NotAShelf) (.ref C_SizeError) = some false
  eh_InvalidRow_SizeError : PySem.W.exmOne K (.ref C_InvalidRow) (.ref C_SizeError) = some false
  eh_InvalidViews_SizeError : PySem.W.exmOne K (.ref C_InvalidViews) (.ref C_SizeError) = some false
  eh_InvalidTexts_SizeError : PySem.W.exmOne K (.ref C_InvalidTexts) (.ref C_SizeError) = some false
  eh_InvalidDeeds_SizeError : PySem.W.exmOne K (.ref C_InvalidDeeds) (.ref C_SizeError) = some false
  eh_NothingToUndo_SizeError : PySem.W.exmOne K (.ref C_NothingToUndo) (.ref C_SizeError) = some false
  eh_Busy_SizeError : PySem.W.exmOne K (.ref C_Busy) (.ref C_SizeError) = some false
  eh_UnknownName_SizeError : PySem.W.exmOne K (.ref C_UnknownName) (.ref C_SizeError) = some false
  eh_TooMany_SizeError : PySem.W.exmOne K (.ref C_TooMany) (.ref C_SizeError) = some true
  eh_InputError_StateError : PySem.W.exmOne K (.ref C_InputError) (.ref C_StateError) = some false
  eh_StateError_StateError : PySem.W.exmOne K (.ref C_StateError) (.ref C_StateError) = some true
  eh_SizeError_StateError : PySem.W.exmOne K (.ref C_SizeError) (.ref C_StateError) = some false
  eh_InvalidNumber_StateError : PySem.W.exmOne K (.ref C_InvalidNumber) (.ref C_StateError) = some false
  eh_InvalidMark_StateError : PySem.W.exmOne K (.ref C_InvalidMark) (.ref C_StateError) = some false
  eh_InvalidText_StateError : PySem.W.exmOne K (.ref C_InvalidText) (.ref C_StateError) = some false
  eh_InvalidLength_StateError : PySem.W.exmOne K (.ref C_InvalidLength) (.ref C_StateError) = some false
  eh_InvalidRule_StateError : PySem.W.exmOne K (.ref C_InvalidRule) (.ref C_StateError) = some false
  eh_InvalidWidth_StateError : PySem.W.exmOne K (.ref C_InvalidWidth) (.ref C_StateError) = some false
  eh_InvalidPlace_StateError : PySem.W.exmOne K (.ref C_InvalidPlace) (.ref C_StateError) = some false
  eh_InvalidLine_StateError : PySem.W.exmOne K (.ref C_InvalidLine) (.ref C_StateError) = some false
  eh_NotANamer_StateError : PySem.W.exmOne K (.ref C_NotANamer) (.ref C_StateError) = some false
  eh_NotAShelf_StateError : PySem.W.exmOne K (.ref C_NotAShelf) (.ref C_StateError) = some false
  eh_InvalidRow_StateError : PySem.W.exmOne K (.ref C_InvalidRow) (.ref C_StateError) = some false
  eh_InvalidViews_StateError : PySem.W.exmOne K (.ref C_InvalidViews) (.ref C_StateError) = some false
  eh_InvalidTexts_StateError : PySem.W.exmOne K (.ref C_InvalidTexts) (.ref C_StateError) = some false
  eh_InvalidDeeds_StateError : PySem.W.exmOne K (.ref C_InvalidDeeds) (.ref C_StateError) = some false
  eh_NothingToUndo_StateError : PySem.W.exmOne K (.ref C_NothingToUndo) (.ref C_StateError) = some true
  eh_Busy_StateError : PySem.W.exmOne K (.ref C_Busy) (.ref C_StateError) = some true
  eh_UnknownName_StateError : PySem.W.exmOne K (.ref C_UnknownName) (.ref C_StateError) = some true
  eh_TooMany_StateError : PySem.W.exmOne K (.ref C_TooMany) (.ref C_StateError) = some false
  C_Namer : Addr
  m_Namer : mg "Namer" = some (.ref C_Namer)
  c_Namer : Cls K C_Namer
  i_Namer : C8.InsC K C_Namer
  na_Namer_rule : NoAttr K C_Namer "rule"
  na_Namer_width : NoAttr K C_Namer "width"
  ne_Namer : PySem.W.findIn K (.ref C_Namer) "__ne__" = some (some (.builtin "object.__ne__"))
  mo_Namer : PySem.W.mroIn K C_Namer (.type "object") = some true
  no_Namer : V.NoSub K C_Namer
  no2_Namer : V.NoSub2 K C_Namer
  kn_Namer : PySem.W.kitOne K (.type "NoneType") (.ref C_Namer) = some false
  ks_Namer : PySem.W.kitOne K (.type "str") (.ref C_Namer) = some false
  ktt_Namer : PySem.W.kitOne K (.type "tuple") (.ref C_Namer) = some false
  kt_Namer : ∀ t ∈ (["NoneType", "bool", "int", "str", "list", "tuple", "dict"] : List String), PySem.W.kitOne K (.type t) (.ref C_Namer) = some false
  kx_Namer : ∀ t ∈ (["int", "bool", "str", "list", "tuple", "dict"] : List String), PySem.W.kitOne K (.ref C_Namer) (.type t) = some false
  f_Namer___init__ : Addr
  d_Namer___init__ : FuncData
  F_Namer___init__ : L2.Fun K "__init__" "Namer.__init__" s_Namer___init__ f_Namer___init__ d_Namer___init__
  b_Namer___init__ : Binds K d_Namer___init__ p_Namer___init__ []
  M_Namer : Mk K C_Namer f_Namer___init__
  f_Namer_base_of : Addr
  d_Namer_base_of : FuncData
  F_Namer_base_of : L2.Fun K "base_of" "Namer.base_of" s_Namer_base_of f_Namer_base_of d_Namer_base_of
  b_Namer_base_of : Binds K d_Namer_base_of p_Namer_base_of []
  t_Namer_base_of : Meth K C_Namer "base_of" f_Namer_base_of
  f_Namer_numbered : Addr
  d_Namer_numbered : FuncData
  F_Namer_numbered : L2.Fun K "numbered" "Namer.numbered" s_Namer_numbered f_Namer_numbered d_Namer_numbered
  b_Namer_numbered : Binds K d_Namer_numbered p_Namer_numbered []
  t_Namer_numbered : Meth K C_Namer "numbered" f_Namer_numbered
  f_Namer_name_for : Addr
  d_Namer_name_for : FuncData
  F_Namer_name_for : L2.Fun K "name_for" "Namer.name_for" s_Namer_name_for f_Namer_name_for d_Namer_name_for
  b_Namer_name_for : Binds K d_Namer_name_for p_Namer_name_for []
  t_Namer_name_for : Meth K C_Namer "name_for" f_Namer_name_for
  f_Namer___eq__ : Addr
  d_Namer___eq__ : FuncData
  F_Namer___eq__ : L2.Fun K "__eq__" "Namer.__eq__" s_Namer___eq__ f_Namer___eq__ d_Namer___eq__
  b_Namer___eq__ : Binds K d_Namer___eq__ p_Namer___eq__ []
  t_Namer___eq__ : Meth K C_Namer "__eq__" f_Namer___eq__
  f_Namer___repr__ : Addr
  d_Namer___repr__ : FuncData
  F_Namer___repr__ : L2.Fun K "__repr__" "Namer.__repr__" s_Namer___repr__ f_Namer___repr__ d_Namer___repr__
  b_Namer___repr__ : Binds K d_Namer___repr__ p_Namer___repr__ []
  t_Namer___repr__ : Meth K C_Namer "__repr__" f_Namer___repr__
  f_is_integer : Addr
  d_is_integer : FuncData
  F_is_integer : L2.Fun K "is_integer" "is_integer" s_is_integer f_is_integer d_is_integer
  b_is_integer : Binds K d_is_integer p_is_integer []
  m_is_integer : mg "is_integer" = some (.ref f_is_integer)
  f_is_text : Addr
  d_is_text : FuncData
  F_is_text : L2.Fun K "is_text" "is_text" s_is_text f_is_text d_is_text
  b_is_text : Binds K d_is_text p_is_text []
  m_is_text : mg "is_text" = some (.ref f_is_text)
  f_check_namer : Addr
  d_check_namer : FuncData
  F_check_namer : L2.Fun K "check_namer" "check_namer" s_check_namer f_check_namer d_check_namer
  b_check_namer : Binds K d_check_namer p_check_namer []
  m_check_namer : mg "check_namer" = some (.ref f_check_namer)
  f_check_texts : Addr
  d_check_texts : FuncData
  F_check_texts : L2.Fun K "check_texts" "check_texts" s_check_texts f_check_texts d_check_texts
  b_check_texts : Binds K d_check_texts p_check_texts []
  m_check_texts : mg "check_texts" = some (.ref f_check_texts)
  f_names_of : Addr
  d_names_of : FuncData
  F_names_of : L2.Fun K "names_of" "names_of" s_names_of f_names_of d_names_of
  b_names_of : Binds K d_names_of p_names_of []
  m_names_of : mg "names_of" = some (.ref f_names_of)
  f_orders_of : Addr
  d_orders_of : FuncData
  F_orders_of : L2.Fun K "orders_of" "orders_of" s_orders_of f_orders_of d_orders_of
  b_orders_of : Binds K d_orders_of p_orders_of []
  m_orders_of : mg "orders_of" = some (.ref f_orders_of)
  f_names : Addr
  d_names : FuncData
  F_names : L2.Fun K "names" "names" s_names f_names d_names
  b_names : Binds K d_names p_names []
  m_names : mg "names" = some (.ref f_names)
  f_meeting : Addr
  d_meeting : FuncData
  F_meeting : L2.Fun K "meeting" "meeting" s_meeting f_meeting d_meeting
  b_meeting : Binds K d_meeting p_meeting []
  m_meeting : mg "meeting" = some (.ref f_meeting)
  f_possible_names : Addr
  d_possible_names : FuncData
  F_possible_names : L2.Fun K "possible_names" "possible_names" s_possible_names f_possible_names d_possible_names
  b_possible_names : Binds K d_possible_names p_possible_names []
  m_possible_names : mg "possible_names" = some (.ref f_possible_names)
  f__law_source : Addr
  d__law_source : FuncData
  F__law_source : L2.Fun K "_law_source" "_law_source" s__law_source f__law_source d__law_source
  b__law_source : Binds K d__law_source p__law_source []
  m__law_source : mg "_law_source" = some (.ref f__law_source)
  f__law_draw : Addr
  d__law_draw : FuncData
  F__law_draw : L2.Fun K "_law_draw" "_law_draw" s__law_draw f__law_draw d__law_draw
  b__law_draw : Binds K d__law_draw p__law_draw []
  m__law_draw : mg "_law_draw" = some (.ref f__law_draw)
  f__law_one : Addr
  d__law_one : FuncData
  F__law_one : L2.Fun K "_law_one" "_law_one" s__law_one f__law_one d__law_one
  b__law_one : Binds K d__law_one p__law_one []
  m__law_one : mg "_law_one" = some (.ref f__law_one)
  f__law_stem : Addr
  d__law_stem : FuncData
  F__law_stem : L2.Fun K "_law_stem" "_law_stem" s__law_stem f__law_stem d__law_stem
  b__law_stem : Binds K d__law_stem p__law_stem []
  m__law_stem : mg "_law_stem" = some (.ref f__law_stem)
  f__law_refusal : Addr
  d__law_refusal : FuncData
  F__law_refusal : L2.Fun K "_law_refusal" "_law_refusal" s__law_refusal f__law_refusal d__law_refusal
  b__law_refusal : Binds K d__law_refusal p__law_refusal []
  m__law_refusal : mg "_law_refusal" = some (.ref f__law_refusal)
  f__law_tried : Addr
  d__law_tried : FuncData
  F__law_tried : L2.Fun K "_law_tried" "_law_tried" s__law_tried f__law_tried d__law_tried
  b__law_tried : Binds K d__law_tried p__law_tried []
  m__law_tried : mg "_law_tried" = some (.ref f__law_tried)
  f__law_is : Addr
  d__law_is : FuncData
  F__law_is : L2.Fun K "_law_is" "_law_is" s__law_is f__law_is d__law_is
  b__law_is : Binds K d__law_is p__law_is []
  m__law_is : mg "_law_is" = some (.ref f__law_is)
  f__law_is_text : Addr
  d__law_is_text : FuncData
  F__law_is_text : L2.Fun K "_law_is_text" "_law_is_text" s__law_is_text f__law_is_text d__law_is_text
  b__law_is_text : Binds K d__law_is_text p__law_is_text []
  m__law_is_text : mg "_law_is_text" = some (.ref f__law_is_text)
  f__law_odd : Addr
  d__law_odd : FuncData
  F__law_odd : L2.Fun K "_law_odd" "_law_odd" s__law_odd f__law_odd d__law_odd
  b__law_odd : Binds K d__law_odd p__law_odd []
  m__law_odd : mg "_law_odd" = some (.ref f__law_odd)
  f__law_line : Addr
  d__law_line : FuncData
  F__law_line : L2.Fun K "_law_line" "_law_line" s__law_line f__law_line d__law_line
  b__law_line : Binds K d__law_line p__law_line []
  m__law_line : mg "_law_line" = some (.ref f__law_line)
  f__law_due : Addr
  d__law_due : FuncData
  F__law_due : L2.Fun K "_law_due" "_law_due" s__law_due f__law_due d__law_due
  b__law_due : Binds K d__law_due p__law_due []
  m__law_due : mg "_law_due" = some (.ref f__law_due)
  f__law_fits : Addr
  d__law_fits : FuncData
  F__law_fits : L2.Fun K "_law_fits" "_law_fits" s__law_fits f__law_fits d__law_fits
  b__law_fits : Binds K d__law_fits p__law_fits []
  m__law_fits : mg "_law_fits" = some (.ref f__law_fits)
  f__law_right : Addr
  d__law_right : FuncData
  F__law_right : L2.Fun K "_law_right" "_law_right" s__law_right f__law_right d__law_right
  b__law_right : Binds K d__law_right p__law_right []
  m__law_right : mg "_law_right" = some (.ref f__law_right)
  f_law : Addr
  d_law : FuncData
  F_law : L2.Fun K "law" "law" s_law f_law d_law
  b_law : Binds K d_law p_law []
  m_law : mg "law" = some (.ref f_law)
  cc__law_right : Addr
  PP__law_right : Addr
  cq__law_right : d__law_right.code = .ref cc__law_right
  hd__law_right : PySem.W.codeHdIn K cc__law_right PP__law_right = true
  np__law_right : K.lookup PP__law_right = none
  ps__law_right : (PP__law_right == sysModules) = false
set_option maxHeartbeats 16000000 in
theorem all_mk {K : PySem.W.Frag} {h : Heap} {mg : Str → Option Value} (X : K.In h) (G : h.Ns mainGlobals mg)
    {cc__law_right PP__law_right : Addr}
    {f_law : Addr} {oc_law kV_law dc_law pm_law cd_law ct_law : Value} {od_law an_law : Option Addr} {sl_law : Array (Option Value)}
    {f__law_right : Addr} {oc__law_right kV__law_right dc__law_right pm__law_right cd__law_right ct__law_right : Value} {od__law_right an__law_right : Option Addr} {sl__law_right : Array (Option Value)}
    {f__law_fits : Addr} {oc__law_fits kV__law_fits dc__law_fits pm__law_fits cd__law_fits ct__law_fits : Value} {od__law_fits an__law_fits : Option Addr} {sl__law_fits : Array (Option Value)}
    {f__law_due : Addr} {oc__law_due kV__law_due dc__law_due pm__law_due cd__law_due ct__law_due : Value} {od__law_due an__law_due : Option Addr} {sl__law_due : Array (Option Value)}
    {f__law_line : Addr} {oc__law_line kV__law_line dc__law_line pm__law_line cd__law_line ct__law_line : Value} {od__law_line an__law_line : Option Addr} {sl__law_line : Array (Option Value)}
    {f__law_odd : Addr} {oc__law_odd kV__law_odd dc__law_odd pm__law_odd cd__law_odd ct__law_odd : Value} {od__law_odd an__law_odd : Option Addr} {sl__law_odd : Array (Option Value)}
    {f__law_is_text : Addr} {oc__law_is_text kV__law_is_text dc__law_is_text pm__law_is_text cd__law_is_text ct__law_is_text : Value} {od__law_is_text an__law_is_text : Option Addr} {sl__law_is_text : Array (Option Value)}
    {f__law_is : Addr} {oc__law_is kV__law_is dc__law_is pm__law_is cd__law_is ct__law_is : Value} {od__law_is an__law_is : Option Addr} {sl__law_is : Array (Option Value)}
    {f__law_tried : Addr} {oc__law_tried kV__law_tried dc__law_tried pm__law_tried cd__law_tried ct__law_tried : Value} {od__law_tried an__law_tried : Option Addr} {sl__law_tried : Array (Option Value)}
    {f__law_refusal : Addr} {oc__law_refusal kV__law_refusal dc__law_refusal pm__law_refusal cd__law_refusal ct__law_refusal : Value} {od__law_refusal an__law_refusal : Option Addr} {sl__law_refusal : Array (Option Value)}
    {f__law_stem : Addr} {oc__law_stem kV__law_stem dc__law_stem pm__law_stem cd__law_stem ct__law_stem : Value} {od__law_stem an__law_stem : Option Addr} {sl__law_stem : Array (Option Value)}
    {f__law_one : Addr} {oc__law_one kV__law_one dc__law_one pm__law_one cd__law_one ct__law_one : Value} {od__law_one an__law_one : Option Addr} {sl__law_one : Array (Option Value)}
    {f__law_draw : Addr} {oc__law_draw kV__law_draw dc__law_draw pm__law_draw cd__law_draw ct__law_draw : Value} {od__law_draw an__law_draw : Option Addr} {sl__law_draw : Array (Option Value)}
    {f__law_source : Addr} {oc__law_source kV__law_source dc__law_source pm__law_source cd__law_source ct__law_source : Value} {od__law_source an__law_source : Option Addr} {sl__law_source : Array (Option Value)}
    {f_possible_names : Addr} {oc_possible_names kV_possible_names dc_possible_names pm_possible_names cd_possible_names ct_possible_names : Value} {od_possible_names an_possible_names : Option Addr} {sl_possible_names : Array (Option Value)}
    {f_meeting : Addr} {oc_meeting kV_meeting dc_meeting pm_meeting cd_meeting ct_meeting : Value} {od_meeting an_meeting : Option Addr} {sl_meeting : Array (Option Value)}
    {f_names : Addr} {oc_names kV_names dc_names pm_names cd_names ct_names : Value} {od_names an_names : Option Addr} {sl_names : Array (Option Value)}
    {f_orders_of : Addr} {oc_orders_of kV_orders_of dc_orders_of pm_orders_of cd_orders_of ct_orders_of : Value} {od_orders_of an_orders_of : Option Addr} {sl_orders_of : Array (Option Value)}
    {f_names_of : Addr} {oc_names_of kV_names_of dc_names_of pm_names_of cd_names_of ct_names_of : Value} {od_names_of an_names_of : Option Addr} {sl_names_of : Array (Option Value)}
    {f_check_texts : Addr} {oc_check_texts kV_check_texts dc_check_texts pm_check_texts cd_check_texts ct_check_texts : Value} {od_check_texts an_check_texts : Option Addr} {sl_check_texts : Array (Option Value)}
    {f_check_namer : Addr} {oc_check_namer kV_check_namer dc_check_namer pm_check_namer cd_check_namer ct_check_namer : Value} {od_check_namer an_check_namer : Option Addr} {sl_check_namer : Array (Option Value)}
    {f_is_text : Addr} {oc_is_text kV_is_text dc_is_text pm_is_text cd_is_text ct_is_text : Value} {od_is_text an_is_text : Option Addr} {sl_is_text : Array (Option Value)}
    {f_is_integer : Addr} {oc_is_integer kV_is_integer dc_is_integer pm_is_integer cd_is_integer ct_is_integer : Value} {od_is_integer an_is_integer : Option Addr} {sl_is_integer : Array (Option Value)}
    {f_Namer___repr__ : Addr} {oc_Namer___repr__ kV_Namer___repr__ dc_Namer___repr__ pm_Namer___repr__ cd_Namer___repr__ ct_Namer___repr__ : Value} {od_Namer___repr__ an_Namer___repr__ : Option Addr} {sl_Namer___repr__ : Array (Option Value)}
    {f_Namer___eq__ : Addr} {oc_Namer___eq__ kV_Namer___eq__ dc_Namer___eq__ pm_Namer___eq__ cd_Namer___eq__ ct_Namer___eq__ : Value} {od_Namer___eq__ an_Namer___eq__ : Option Addr} {sl_Namer___eq__ : Array (Option Value)}
    {f_Namer_name_for : Addr} {oc_Namer_name_for kV_Namer_name_for dc_Namer_name_for pm_Namer_name_for cd_Namer_name_for ct_Namer_name_for : Value} {od_Namer_name_for an_Namer_name_for : Option Addr} {sl_Namer_name_for : Array (Option Value)}
    {f_Namer_numbered : Addr} {oc_Namer_numbered kV_Namer_numbered dc_Namer_numbered pm_Namer_numbered cd_Namer_numbered ct_Namer_numbered : Value} {od_Namer_numbered an_Namer_numbered : Option Addr} {sl_Namer_numbered : Array (Option Value)}
    {f_Namer_base_of : Addr} {oc_Namer_base_of kV_Namer_base_of dc_Namer_base_of pm_Namer_base_of cd_Namer_base_of ct_Namer_base_of : Value} {od_Namer_base_of an_Namer_base_of : Option Addr} {sl_Namer_base_of : Array (Option Value)}
    {f_Namer___init__ : Addr} {oc_Namer___init__ kV_Namer___init__ dc_Namer___init__ pm_Namer___init__ cd_Namer___init__ ct_Namer___init__ : Value} {od_Namer___init__ an_Namer___init__ : Option Addr} {sl_Namer___init__ : Array (Option Value)}
    {C_Namer : Addr}
    {f_InvalidTexts___init__ : Addr} {oc_InvalidTexts___init__ kV_InvalidTexts___init__ dc_InvalidTexts___init__ pm_InvalidTexts___init__ cd_InvalidTexts___init__ ct_InvalidTexts___init__ : Value} {od_InvalidTexts___init__ an_InvalidTexts___init__ : Option Addr} {sl_InvalidTexts___init__ : Array (Option Value)}
    {nm_InvalidTexts q_InvalidTexts : Str} {N_InvalidTexts : Addr} {bs_InvalidTexts bm_InvalidTexts sub_InvalidTexts : List Value} {sn_InvalidTexts : List Str} {ab_InvalidTexts : Bool} {col_InvalidTexts : Option Bool} {dd_InvalidTexts : Option Addr} {e0_InvalidTexts e1_InvalidTexts e2_InvalidTexts e3_InvalidTexts e5_InvalidTexts : Option Value}
    {f_NotANamer___init__ : Addr} {oc_NotANamer___init__ kV_NotANamer___init__ dc_NotANamer___init__ pm_NotANamer___init__ cd_NotANamer___init__ ct_NotANamer___init__ : Value} {od_NotANamer___init__ an_NotANamer___init__ : Option Addr} {sl_NotANamer___init__ : Array (Option Value)}
    {nm_NotANamer q_NotANamer : Str} {N_NotANamer : Addr} {bs_NotANamer bm_NotANamer sub_NotANamer : List Value} {sn_NotANamer : List Str} {ab_NotANamer : Bool} {col_NotANamer : Option Bool} {dd_NotANamer : Option Addr} {e0_NotANamer e1_NotANamer e2_NotANamer e3_NotANamer e5_NotANamer : Option Value}
    {f_InvalidPlace___init__ : Addr} {oc_InvalidPlace___init__ kV_InvalidPlace___init__ dc_InvalidPlace___init__ pm_InvalidPlace___init__ cd_InvalidPlace___init__ ct_InvalidPlace___init__ : Value} {od_InvalidPlace___init__ an_InvalidPlace___init__ : Option Addr} {sl_InvalidPlace___init__ : Array (Option Value)}
    {nm_InvalidPlace q_InvalidPlace : Str} {N_InvalidPlace : Addr} {bs_InvalidPlace bm_InvalidPlace sub_InvalidPlace : List Value} {sn_InvalidPlace : List Str} {ab_InvalidPlace : Bool} {col_InvalidPlace : Option Bool} {dd_InvalidPlace : Option Addr} {e0_InvalidPlace e1_InvalidPlace e2_InvalidPlace e3_InvalidPlace e5_InvalidPlace : Option Value}
    {f_InvalidWidth___init__ : Addr} {oc_InvalidWidth___init__ kV_InvalidWidth___init__ dc_InvalidWidth___init__ pm_InvalidWidth___init__ cd_InvalidWidth___init__ ct_InvalidWidth___init__ : Value} {od_InvalidWidth___init__ an_InvalidWidth___init__ : Option Addr} {sl_InvalidWidth___init__ : Array (Option Value)}
    {nm_InvalidWidth q_InvalidWidth : Str} {N_InvalidWidth : Addr} {bs_InvalidWidth bm_InvalidWidth sub_InvalidWidth : List Value} {sn_InvalidWidth : List Str} {ab_InvalidWidth : Bool} {col_InvalidWidth : Option Bool} {dd_InvalidWidth : Option Addr} {e0_InvalidWidth e1_InvalidWidth e2_InvalidWidth e3_InvalidWidth e5_InvalidWidth : Option Value}
    {f_InvalidRule___init__ : Addr} {oc_InvalidRule___init__ kV_InvalidRule___init__ dc_InvalidRule___init__ pm_InvalidRule___init__ cd_InvalidRule___init__ ct_InvalidRule___init__ : Value} {od_InvalidRule___init__ an_InvalidRule___init__ : Option Addr} {sl_InvalidRule___init__ : Array (Option Value)}
    {nm_InvalidRule q_InvalidRule : Str} {N_InvalidRule : Addr} {bs_InvalidRule bm_InvalidRule sub_InvalidRule : List Value} {sn_InvalidRule : List Str} {ab_InvalidRule : Bool} {col_InvalidRule : Option Bool} {dd_InvalidRule : Option Addr} {e0_InvalidRule e1_InvalidRule e2_InvalidRule e3_InvalidRule e5_InvalidRule : Option Value}
    {C_TooMany : Addr}
    {C_UnknownName : Addr}
    {C_Busy : Addr}
    {C_NothingToUndo : Addr}
    {C_InvalidDeeds : Addr}
    {C_InvalidTexts : Addr}
    {C_InvalidViews : Addr}
    {C_InvalidRow : Addr}
    {C_NotAShelf : Addr}
    {C_NotANamer : Addr}
    {C_InvalidLine : Addr}
    {C_InvalidPlace : Addr}
    {C_InvalidWidth : Addr}
    {C_InvalidRule : Addr}
    {C_InvalidLength : Addr}
    {C_InvalidText : Addr}
    {C_InvalidMark : Addr}
    {C_InvalidNumber : Addr}
    {C_SizeError : Addr}
    {C_StateError : Addr}
    {C_InputError : Addr}
    {tk_FIRST_NUMBER : Tok}
    {tk_LEAST_WIDTH : Tok}
    {ad_RULES : Addr} {od_RULES : Option Addr} {nn_RULES : Nat} {sl_RULES : Array (Option Value)} {tk_RULES_0 tk_RULES_1 tk_RULES_2 : Tok}
    {tk_SIGNS : Tok}
    {tk_MOST_LISTED : Tok}
    {tk_MOST_TEXT : Tok}
    {tk_MOST_SIGNS : Tok}
    (x_n_ArithmeticError : PySem.W.nsIn K mainGlobals "ArithmeticError" = some none)
    (x_n_LookupError : PySem.W.nsIn K mainGlobals "LookupError" = some none)
    (x_n_ValueError : PySem.W.nsIn K mainGlobals "ValueError" = some none)
    (x_n_abs : PySem.W.nsIn K mainGlobals "abs" = some none)
    (x_n_all : PySem.W.nsIn K mainGlobals "all" = some none)
    (x_n_bool : PySem.W.nsIn K mainGlobals "bool" = some none)
    (x_n_divmod : PySem.W.nsIn K mainGlobals "divmod" = some none)
    (x_n_enumerate : PySem.W.nsIn K mainGlobals "enumerate" = some none)
    (x_n_int : PySem.W.nsIn K mainGlobals "int" = some none)
    (x_n_isinstance : PySem.W.nsIn K mainGlobals "isinstance" = some none)
    (x_n_len : PySem.W.nsIn K mainGlobals "len" = some none)
    (x_n_list : PySem.W.nsIn K mainGlobals "list" = some none)
    (x_n_max : PySem.W.nsIn K mainGlobals "max" = some none)
    (x_n_min : PySem.W.nsIn K mainGlobals "min" = some none)
    (x_n_range : PySem.W.nsIn K mainGlobals "range" = some none)
    (x_n_repr : PySem.W.nsIn K mainGlobals "repr" = some none)
    (x_n_set : PySem.W.nsIn K mainGlobals "set" = some none)
    (x_n_sorted : PySem.W.nsIn K mainGlobals "sorted" = some none)
    (x_n_str : PySem.W.nsIn K mainGlobals "str" = some none)
    (x_n_tuple : PySem.W.nsIn K mainGlobals "tuple" = some none)
    (x_k_MOST_SIGNS : PySem.W.nsIn K mainGlobals "MOST_SIGNS" = some (some (.int 40 tk_MOST_SIGNS)))
    (x_k_MOST_TEXT : PySem.W.nsIn K mainGlobals "MOST_TEXT" = some (some (.int 200 tk_MOST_TEXT)))
    (x_k_MOST_LISTED : PySem.W.nsIn K mainGlobals "MOST_LISTED" = some (some (.int 6 tk_MOST_LISTED)))
    (x_k_SIGNS : PySem.W.nsIn K mainGlobals "SIGNS" = some (some (.str (PySem.Str.ofString ".0123456789abcdefghijklmnopqrstuvwxyz~") tk_SIGNS)))
    (x_m_RULES : PySem.W.nsIn K mainGlobals "RULES" = some (some (.ref ad_RULES)))
    (x_q_RULES : K.lookup ad_RULES = some ⟨.type "tuple", od_RULES, .seq #[.str (PySem.Str.ofString "count") tk_RULES_0, .str (PySem.Str.ofString "free") tk_RULES_1, .str (PySem.Str.ofString "tight") tk_RULES_2] nn_RULES, sl_RULES⟩)
    (x_k_LEAST_WIDTH : PySem.W.nsIn K mainGlobals "LEAST_WIDTH" = some (some (.int 6 tk_LEAST_WIDTH)))
    (x_k_FIRST_NUMBER : PySem.W.nsIn K mainGlobals "FIRST_NUMBER" = some (some (.int 2 tk_FIRST_NUMBER)))
    (x_C_InputError : PySem.W.nsIn K mainGlobals "InputError" = some (some (.ref C_InputError)))
    (x_C_StateError : PySem.W.nsIn K mainGlobals "StateError" = some (some (.ref C_StateError)))
    (x_C_SizeError : PySem.W.nsIn K mainGlobals "SizeError" = some (some (.ref C_SizeError)))
    (x_C_InvalidNumber : PySem.W.nsIn K mainGlobals "InvalidNumber" = some (some (.ref C_InvalidNumber)))
    (x_C_InvalidMark : PySem.W.nsIn K mainGlobals "InvalidMark" = some (some (.ref C_InvalidMark)))
    (x_C_InvalidText : PySem.W.nsIn K mainGlobals "InvalidText" = some (some (.ref C_InvalidText)))
    (x_C_InvalidLength : PySem.W.nsIn K mainGlobals "InvalidLength" = some (some (.ref C_InvalidLength)))
    (x_C_InvalidRule : PySem.W.nsIn K mainGlobals "InvalidRule" = some (some (.ref C_InvalidRule)))
    (x_C_InvalidWidth : PySem.W.nsIn K mainGlobals "InvalidWidth" = some (some (.ref C_InvalidWidth)))
    (x_C_InvalidPlace : PySem.W.nsIn K mainGlobals "InvalidPlace" = some (some (.ref C_InvalidPlace)))
    (x_C_InvalidLine : PySem.W.nsIn K mainGlobals "InvalidLine" = some (some (.ref C_InvalidLine)))
    (x_C_NotANamer : PySem.W.nsIn K mainGlobals "NotANamer" = some (some (.ref C_NotANamer)))
    (x_C_NotAShelf : PySem.W.nsIn K mainGlobals "NotAShelf" = some (some (.ref C_NotAShelf)))
    (x_C_InvalidRow : PySem.W.nsIn K mainGlobals "InvalidRow" = some (some (.ref C_InvalidRow)))
    (x_C_InvalidViews : PySem.W.nsIn K mainGlobals "InvalidViews" = some (some (.ref C_InvalidViews)))
    (x_C_InvalidTexts : PySem.W.nsIn K mainGlobals "InvalidTexts" = some (some (.ref C_InvalidTexts)))
    (x_C_InvalidDeeds : PySem.W.nsIn K mainGlobals "InvalidDeeds" = some (some (.ref C_InvalidDeeds)))
    (x_C_NothingToUndo : PySem.W.nsIn K mainGlobals "NothingToUndo" = some (some (.ref C_NothingToUndo)))
    (x_C_Busy : PySem.W.nsIn K mainGlobals "Busy" = some (some (.ref C_Busy)))
    (x_C_UnknownName : PySem.W.nsIn K mainGlobals "UnknownName" = some (some (.ref C_UnknownName)))
    (x_C_TooMany : PySem.W.nsIn K mainGlobals "TooMany" = some (some (.ref C_TooMany)))
    (x_L_InvalidRule : K.lookup C_InvalidRule = some (excClassObj nm_InvalidRule q_InvalidRule C_InvalidRule N_InvalidRule bs_InvalidRule bm_InvalidRule true sn_InvalidRule sub_InvalidRule ab_InvalidRule col_InvalidRule dd_InvalidRule e0_InvalidRule e1_InvalidRule e2_InvalidRule e3_InvalidRule e5_InvalidRule "ValueError.__new__"))
    (x_me_R_InvalidRule : PySem.HandSPX.refsVE bm_InvalidRule = true)
    (x_xs_InvalidRule : PySem.W.findIn K (.ref C_InvalidRule) "__setattr__" = some (some (.builtin "object.__setattr__")))
    (x_xe_InvalidRule : PySem.W.subIn K (.ref C_InvalidRule) (.type "BaseException") = some true)
    (x_xt_InvalidRule : PySem.W.typeIn K (.ref C_InvalidRule) = some (.type "type"))
    (x_xk_InvalidRule : PySem.W.keepIn K (.ref C_InvalidRule) = true)
    (x_na_InvalidRule_value : PySem.W.findIn K (.ref C_InvalidRule) "value" = some none)
    (x_a_InvalidRule___init__ : PySem.W.findIn K (.ref C_InvalidRule) "__init__" = some (some (.ref f_InvalidRule___init__)))
    (x_j_InvalidRule___init__ : PySem.W.typeIn K (.ref f_InvalidRule___init__) = some (.type "function"))
    (x_i_InvalidRule___init__ : PySem.W.isFn K (.ref f_InvalidRule___init__) = true)
    (x_l_InvalidRule___init__ : K.lookup f_InvalidRule___init__ = some ⟨oc_InvalidRule___init__, od_InvalidRule___init__, .func (PySem.W.fnOf "__init__" "InvalidRule.__init__" (L2.defArgs s_InvalidRule___init__) (L2.defBody s_InvalidRule___init__) (L2.defScope s_InvalidRule___init__) .none kV_InvalidRule___init__ dc_InvalidRule___init__ pm_InvalidRule___init__ an_InvalidRule___init__ cd_InvalidRule___init__ ct_InvalidRule___init__), sl_InvalidRule___init__⟩)
    (x_c_InvalidRule___init__ : PySem.W.codeIn K cd_InvalidRule___init__ "InvalidRule.__init__" = true)
    (x_k_InvalidRule___init__ : PySem.W.keepIn K (.ref f_InvalidRule___init__) = true)
    (x_L_InvalidWidth : K.lookup C_InvalidWidth = some (excClassObj nm_InvalidWidth q_InvalidWidth C_InvalidWidth N_InvalidWidth bs_InvalidWidth bm_InvalidWidth true sn_InvalidWidth sub_InvalidWidth ab_InvalidWidth col_InvalidWidth dd_InvalidWidth e0_InvalidWidth e1_InvalidWidth e2_InvalidWidth e3_InvalidWidth e5_InvalidWidth "ValueError.__new__"))
    (x_me_R_InvalidWidth : PySem.HandSPX.refsVE bm_InvalidWidth = true)
    (x_xs_InvalidWidth : PySem.W.findIn K (.ref C_InvalidWidth) "__setattr__" = some (some (.builtin "object.__setattr__")))
    (x_xe_InvalidWidth : PySem.W.subIn K (.ref C_InvalidWidth) (.type "BaseException") = some true)
    (x_xt_InvalidWidth : PySem.W.typeIn K (.ref C_InvalidWidth) = some (.type "type"))
    (x_xk_InvalidWidth : PySem.W.keepIn K (.ref C_InvalidWidth) = true)
    (x_na_InvalidWidth_value : PySem.W.findIn K (.ref C_InvalidWidth) "value" = some none)
    (x_a_InvalidWidth___init__ : PySem.W.findIn K (.ref C_InvalidWidth) "__init__" = some (some (.ref f_InvalidWidth___init__)))
    (x_j_InvalidWidth___init__ : PySem.W.typeIn K (.ref f_InvalidWidth___init__) = some (.type "function"))
    (x_i_InvalidWidth___init__ : PySem.W.isFn K (.ref f_InvalidWidth___init__) = true)
    (x_l_InvalidWidth___init__ : K.lookup f_InvalidWidth___init__ = some ⟨oc_InvalidWidth___init__, od_InvalidWidth___init__, .func (PySem.W.fnOf "__init__" "InvalidWidth.__init__" (L2.defArgs s_InvalidWidth___init__) (L2.defBody s_InvalidWidth___init__) (L2.defScope s_InvalidWidth___init__) .none kV_InvalidWidth___init__ dc_InvalidWidth___init__ pm_InvalidWidth___init__ an_InvalidWidth___init__ cd_InvalidWidth___init__ ct_InvalidWidth___init__), sl_InvalidWidth___init__⟩)
    (x_c_InvalidWidth___init__ : PySem.W.codeIn K cd_InvalidWidth___init__ "InvalidWidth.__init__" = true)
    (x_k_InvalidWidth___init__ : PySem.W.keepIn K (.ref f_InvalidWidth___init__) = true)
    (x_L_InvalidPlace : K.lookup C_InvalidPlace = some (excClassObj nm_InvalidPlace q_InvalidPlace C_InvalidPlace N_InvalidPlace bs_InvalidPlace bm_InvalidPlace true sn_InvalidPlace sub_InvalidPlace ab_InvalidPlace col_InvalidPlace dd_InvalidPlace e0_InvalidPlace e1_InvalidPlace e2_InvalidPlace e3_InvalidPlace e5_InvalidPlace "ValueError.__new__"))
    (x_me_R_InvalidPlace : PySem.HandSPX.refsVE bm_InvalidPlace = true)
    (x_xs_InvalidPlace : PySem.W.findIn K (.ref C_InvalidPlace) "__setattr__" = some (some (.builtin "object.__setattr__")))
    (x_xe_InvalidPlace : PySem.W.subIn K (.ref C_InvalidPlace) (.type "BaseException") = some true)
    (x_xt_InvalidPlace : PySem.W.typeIn K (.ref C_InvalidPlace) = some (.type "type"))
    (x_xk_InvalidPlace : PySem.W.keepIn K (.ref C_InvalidPlace) = true)
    (x_na_InvalidPlace_value : PySem.W.findIn K (.ref C_InvalidPlace) "value" = some none)
    (x_a_InvalidPlace___init__ : PySem.W.findIn K (.ref C_InvalidPlace) "__init__" = some (some (.ref f_InvalidPlace___init__)))
    (x_j_InvalidPlace___init__ : PySem.W.typeIn K (.ref f_InvalidPlace___init__) = some (.type "function"))
    (x_i_InvalidPlace___init__ : PySem.W.isFn K (.ref f_InvalidPlace___init__) = true)
    (x_l_InvalidPlace___init__ : K.lookup f_InvalidPlace___init__ = some ⟨oc_InvalidPlace___init__, od_InvalidPlace___init__, .func (PySem.W.fnOf "__init__" "InvalidPlace.__init__" (L2.defArgs s_InvalidPlace___init__) (L2.defBody s_InvalidPlace___init__) (L2.defScope s_InvalidPlace___init__) .none kV_InvalidPlace___init__ dc_InvalidPlace___init__ pm_InvalidPlace___init__ an_InvalidPlace___init__ cd_InvalidPlace___init__ ct_InvalidPlace___init__), sl_InvalidPlace___init__⟩)
    (x_c_InvalidPlace___init__ : PySem.W.codeIn K cd_InvalidPlace___init__ "InvalidPlace.__init__" = true)
    (x_k_InvalidPlace___init__ : PySem.W.keepIn K (.ref f_InvalidPlace___init__) = true)
    (x_L_NotANamer : K.lookup C_NotANamer = some (excClassObj nm_NotANamer q_NotANamer C_NotANamer N_NotANamer bs_NotANamer bm_NotANamer true sn_NotANamer sub_NotANamer ab_NotANamer col_NotANamer dd_NotANamer e0_NotANamer e1_NotANamer e2_NotANamer e3_NotANamer e5_NotANamer "ValueError.__new__"))
    (x_me_R_NotANamer : PySem.HandSPX.refsVE bm_NotANamer = true)
    (x_xs_NotANamer : PySem.W.findIn K (.ref C_NotANamer) "__setattr__" = some (some (.builtin "object.__setattr__")))
    (x_xe_NotANamer : PySem.W.subIn K (.ref C_NotANamer) (.type "BaseException") = some true)
    (x_xt_NotANamer : PySem.W.typeIn K (.ref C_NotANamer) = some (.type "type"))
    (x_xk_NotANamer : PySem.W.keepIn K (.ref C_NotANamer) = true)
    (x_na_NotANamer_value : PySem.W.findIn K (.ref C_NotANamer) "value" = some none)
    (x_a_NotANamer___init__ : PySem.W.findIn K (.ref C_NotANamer) "__init__" = some (some (.ref f_NotANamer___init__)))
    (x_j_NotANamer___init__ : PySem.W.typeIn K (.ref f_NotANamer___init__) = some (.type "function"))
    (x_i_NotANamer___init__ : PySem.W.isFn K (.ref f_NotANamer___init__) = true)
    (x_l_NotANamer___init__ : K.lookup f_NotANamer___init__ = some ⟨oc_NotANamer___init__, od_NotANamer___init__, .func (PySem.W.fnOf "__init__" "NotANamer.__init__" (L2.defArgs s_NotANamer___init__) (L2.defBody s_NotANamer___init__) (L2.defScope s_NotANamer___init__) .none kV_NotANamer___init__ dc_NotANamer___init__ pm_NotANamer___init__ an_NotANamer___init__ cd_NotANamer___init__ ct_NotANamer___init__), sl_NotANamer___init__⟩)
    (x_c_NotANamer___init__ : PySem.W.codeIn K cd_NotANamer___init__ "NotANamer.__init__" = true)
    (x_k_NotANamer___init__ : PySem.W.keepIn K (.ref f_NotANamer___init__) = true)
    (x_L_InvalidTexts : K.lookup C_InvalidTexts = some (excClassObj nm_InvalidTexts q_InvalidTexts C_InvalidTexts N_InvalidTexts bs_InvalidTexts bm_InvalidTexts true sn_InvalidTexts sub_InvalidTexts ab_InvalidTexts col_InvalidTexts dd_InvalidTexts e0_InvalidTexts e1_InvalidTexts e2_InvalidTexts e3_InvalidTexts e5_InvalidTexts "ValueError.__new__"))
    (x_me_R_InvalidTexts : PySem.HandSPX.refsVE bm_InvalidTexts = true)
    (x_xs_InvalidTexts : PySem.W.findIn K (.ref C_InvalidTexts) "__setattr__" = some (some (.builtin "object.__setattr__")))
    (x_xe_InvalidTexts : PySem.W.subIn K (.ref C_InvalidTexts) (.type "BaseException") = some true)
    (x_xt_InvalidTexts : PySem.W.typeIn K (.ref C_InvalidTexts) = some (.type "type"))
    (x_xk_InvalidTexts : PySem.W.keepIn K (.ref C_InvalidTexts) = true)
    (x_na_InvalidTexts_index : PySem.W.findIn K (.ref C_InvalidTexts) "index" = some none)
    (x_a_InvalidTexts___init__ : PySem.W.findIn K (.ref C_InvalidTexts) "__init__" = some (some (.ref f_InvalidTexts___init__)))
    (x_j_InvalidTexts___init__ : PySem.W.typeIn K (.ref f_InvalidTexts___init__) = some (.type "function"))
    (x_i_InvalidTexts___init__ : PySem.W.isFn K (.ref f_InvalidTexts___init__) = true)
    (x_l_InvalidTexts___init__ : K.lookup f_InvalidTexts___init__ = some ⟨oc_InvalidTexts___init__, od_InvalidTexts___init__, .func (PySem.W.fnOf "__init__" "InvalidTexts.__init__" (L2.defArgs s_InvalidTexts___init__) (L2.defBody s_InvalidTexts___init__) (L2.defScope s_InvalidTexts___init__) .none kV_InvalidTexts___init__ dc_InvalidTexts___init__ pm_InvalidTexts___init__ an_InvalidTexts___init__ cd_InvalidTexts___init__ ct_InvalidTexts___init__), sl_InvalidTexts___init__⟩)
    (x_c_InvalidTexts___init__ : PySem.W.codeIn K cd_InvalidTexts___init__ "InvalidTexts.__init__" = true)
    (x_k_InvalidTexts___init__ : PySem.W.keepIn K (.ref f_InvalidTexts___init__) = true)
    (x_ga_InvalidRule : PySem.W.findIn K (.ref C_InvalidRule) "__getattribute__" = some (some (.builtin "BaseException.__getattribute__")))
    (x_gg_InvalidRule : PySem.W.findIn K (.ref C_InvalidRule) "__getattr__" = some none)
    (x_xd_InvalidRule : PySem.W.hasDictIn K C_InvalidRule = true)
    (x_xa_InvalidRule : PySem.W.findIn K (.ref C_InvalidRule) "__class__" = some (some (.builtin "object.__class__")))
    (x_xn_InvalidRule : PySem.W.specialIn K (.builtin "object.__class__") "__get__" = some (some (.builtin "getset_descriptor.__get__")))
    (x_xq_InvalidRule : PySem.W.takesIn K (.builtin "object.__class__") = some true)
    (x_xm_InvalidRule : PySem.W.mroIn K C_InvalidRule (.type "object") = some true)
    (x_me_kr_InvalidRule_0 : PySem.W.kitOne K (.ref C_InvalidRule) (.ref C_InvalidNumber) = some false)
    (x_me_kr_InvalidRule_1 : PySem.W.kitOne K (.ref C_InvalidRule) (.ref C_InvalidMark) = some false)
    (x_me_kr_InvalidRule_2 : PySem.W.kitOne K (.ref C_InvalidRule) (.ref C_InvalidText) = some false)
    (x_me_kr_InvalidRule_3 : PySem.W.kitOne K (.ref C_InvalidRule) (.ref C_InvalidLength) = some false)
    (x_me_kr_InvalidRule_4 : PySem.W.kitOne K (.ref C_InvalidRule) (.ref C_InvalidRule) = some true)
    (x_me_kr_InvalidRule_5 : PySem.W.kitOne K (.ref C_InvalidRule) (.ref C_InvalidWidth) = some false)
    (x_me_kr_InvalidRule_6 : PySem.W.kitOne K (.ref C_InvalidRule) (.ref C_InvalidPlace) = some false)
    (x_me_kr_InvalidRule_7 : PySem.W.kitOne K (.ref C_InvalidRule) (.ref C_InvalidLine) = some false)
    (x_me_kr_InvalidRule_8 : PySem.W.kitOne K (.ref C_InvalidRule) (.ref C_NotANamer) = some false)
    (x_me_kr_InvalidRule_9 : PySem.W.kitOne K (.ref C_InvalidRule) (.ref C_NotAShelf) = some false)
    (x_me_kr_InvalidRule_10 : PySem.W.kitOne K (.ref C_InvalidRule) (.ref C_InvalidRow) = some false)
    (x_me_kr_InvalidRule_11 : PySem.W.kitOne K (.ref C_InvalidRule) (.ref C_InvalidViews) = some false)
    (x_me_kr_InvalidRule_12 : PySem.W.kitOne K (.ref C_InvalidRule) (.ref C_InvalidTexts) = some false)
    (x_me_kr_InvalidRule_13 : PySem.W.kitOne K (.ref C_InvalidRule) (.ref C_InvalidDeeds) = some false)
    (x_me_kr_InvalidRule_14 : PySem.W.kitOne K (.ref C_InvalidRule) (.ref C_NothingToUndo) = some false)
    (x_me_kr_InvalidRule_15 : PySem.W.kitOne K (.ref C_InvalidRule) (.ref C_Busy) = some false)
    (x_me_kr_InvalidRule_16 : PySem.W.kitOne K (.ref C_InvalidRule) (.ref C_UnknownName) = some false)
    (x_me_kr_InvalidRule_17 : PySem.W.kitOne K (.ref C_InvalidRule) (.ref C_TooMany) = some false)
    (x_me_kr_InvalidRule_18 : PySem.W.kitOne K (.ref C_InvalidRule) (.ref C_InputError) = some true)
    (x_me_kr_InvalidRule_19 : PySem.W.kitOne K (.ref C_InvalidRule) (.ref C_StateError) = some false)
    (x_me_kr_InvalidRule_20 : PySem.W.kitOne K (.ref C_InvalidRule) (.ref C_SizeError) = some false)
    (x_me_kr_InvalidRule_21 : PySem.W.kitOne K (.ref C_InvalidRule) (.type "ValueError") = some true)
    (x_me_kr_InvalidRule_22 : PySem.W.kitOne K (.ref C_InvalidRule) (.type "LookupError") = some false)
    (x_me_kr_InvalidRule_23 : PySem.W.kitOne K (.ref C_InvalidRule) (.type "ArithmeticError") = some false)
    (x_ga_InvalidWidth : PySem.W.findIn K (.ref C_InvalidWidth) "__getattribute__" = some (some (.builtin "BaseException.__getattribute__")))
    (x_gg_InvalidWidth : PySem.W.findIn K (.ref C_InvalidWidth) "__getattr__" = some none)
    (x_xd_InvalidWidth : PySem.W.hasDictIn K C_InvalidWidth = true)
    (x_xa_InvalidWidth : PySem.W.findIn K (.ref C_InvalidWidth) "__class__" = some (some (.builtin "object.__class__")))
    (x_xn_InvalidWidth : PySem.W.specialIn K (.builtin "object.__class__") "__get__" = some (some (.builtin "getset_descriptor.__get__")))
    (x_xq_InvalidWidth : PySem.W.takesIn K (.builtin "object.__class__") = some true)
    (x_xm_InvalidWidth : PySem.W.mroIn K C_InvalidWidth (.type "object") = some true)
    (x_me_kr_InvalidWidth_0 : PySem.W.kitOne K (.ref C_InvalidWidth) (.ref C_InvalidNumber) = some false)
    (x_me_kr_InvalidWidth_1 : PySem.W.kitOne K (.ref C_InvalidWidth) (.ref C_InvalidMark) = some false)
    (x_me_kr_InvalidWidth_2 : PySem.W.kitOne K (.ref C_InvalidWidth) (.ref C_InvalidText) = some false)
    (x_me_kr_InvalidWidth_3 : PySem.W.kitOne K (.ref C_InvalidWidth) (.ref C_InvalidLength) = some false)
    (x_me_kr_InvalidWidth_4 : PySem.W.kitOne K (.ref C_InvalidWidth) (.ref C_InvalidRule) = some false)
    (x_me_kr_InvalidWidth_5 : PySem.W.kitOne K (.ref C_InvalidWidth) (.ref C_InvalidWidth) = some true)
    (x_me_kr_InvalidWidth_6 : PySem.W.kitOne K (.ref C_InvalidWidth) (.ref C_InvalidPlace) = some false)
    (x_me_kr_InvalidWidth_7 : PySem.W.kitOne K (.ref C_InvalidWidth) (.ref C_InvalidLine) = some false)
    (x_me_kr_InvalidWidth_8 : PySem.W.kitOne K (.ref C_InvalidWidth) (.ref C_NotANamer) = some false)
    (x_me_kr_InvalidWidth_9 : PySem.W.kitOne K (.ref C_InvalidWidth) (.ref C_NotAShelf) = some false)
    (x_me_kr_InvalidWidth_10 : PySem.W.kitOne K (.ref C_InvalidWidth) (.ref C_InvalidRow) = some false)
    (x_me_kr_InvalidWidth_11 : PySem.W.kitOne K (.ref C_InvalidWidth) (.ref C_InvalidViews) = some false)
    (x_me_kr_InvalidWidth_12 : PySem.W.kitOne K (.ref C_InvalidWidth) (.ref C_InvalidTexts) = some false)
    (x_me_kr_InvalidWidth_13 : PySem.W.kitOne K (.ref C_InvalidWidth) (.ref C_InvalidDeeds) = some false)
    (x_me_kr_InvalidWidth_14 : PySem.W.kitOne K (.ref C_InvalidWidth) (.ref C_NothingToUndo) = some false)
    (x_me_kr_InvalidWidth_15 : PySem.W.kitOne K (.ref C_InvalidWidth) (.ref C_Busy) = some false)
    (x_me_kr_InvalidWidth_16 : PySem.W.kitOne K (.ref C_InvalidWidth) (.ref C_UnknownName) = some false)
    (x_me_kr_InvalidWidth_17 : PySem.W.kitOne K (.ref C_InvalidWidth) (.ref C_TooMany) = some false)
    (x_me_kr_InvalidWidth_18 : PySem.W.kitOne K (.ref C_InvalidWidth) (.ref C_InputError) = some true)
    (x_me_kr_InvalidWidth_19 : PySem.W.kitOne K (.ref C_InvalidWidth) (.ref C_StateError) = some false)
    (x_me_kr_InvalidWidth_20 : PySem.W.kitOne K (.ref C_InvalidWidth) (.ref C_SizeError) = some false)
    (x_me_kr_InvalidWidth_21 : PySem.W.kitOne K (.ref C_InvalidWidth) (.type "ValueError") = some true)
    (x_me_kr_InvalidWidth_22 : PySem.W.kitOne K (.ref C_InvalidWidth) (.type "LookupError") = some false)
    (x_me_kr_InvalidWidth_23 : PySem.W.kitOne K (.ref C_InvalidWidth) (.type "ArithmeticError") = some false)
    (x_ga_NotANamer : PySem.W.findIn K (.ref C_NotANamer) "__getattribute__" = some (some (.builtin "BaseException.__getattribute__")))
    (x_gg_NotANamer : PySem.W.findIn K (.ref C_NotANamer) "__getattr__" = some none)
    (x_xd_NotANamer : PySem.W.hasDictIn K C_NotANamer = true)
    (x_xa_NotANamer : PySem.W.findIn K (.ref C_NotANamer) "__class__" = some (some (.builtin "object.__class__")))
    (x_xn_NotANamer : PySem.W.specialIn K (.builtin "object.__class__") "__get__" = some (some (.builtin "getset_descriptor.__get__")))
    (x_xq_NotANamer : PySem.W.takesIn K (.builtin "object.__class__") = some true)
    (x_xm_NotANamer : PySem.W.mroIn K C_NotANamer (.type "object") = some true)
    (x_me_kr_NotANamer_0 : PySem.W.kitOne K (.ref C_NotANamer) (.ref C_InvalidNumber) = some false)
    (x_me_kr_NotANamer_1 : PySem.W.kitOne K (.ref C_NotANamer) (.ref C_InvalidMark) = some false)
    (x_me_kr_NotANamer_2 : PySem.W.kitOne K (.ref C_NotANamer) (.ref C_InvalidText) = some false)
    (x_me_kr_NotANamer_3 : PySem.W.kitOne K (.ref C_NotANamer) (.ref C_InvalidLength) = some false)
    (x_me_kr_NotANamer_4 : PySem.W.kitOne K (.ref C_NotANamer) (.ref C_InvalidRule) = some false)
    (x_me_kr_NotANamer_5 : PySem.W.kitOne K (.ref C_NotANamer) (.ref C_InvalidWidth) = some false)
    (x_me_kr_NotANamer_6 : PySem.W.kitOne K (.ref C_NotANamer) (.ref C_InvalidPlace) = some false)
    (x_me_kr_NotANamer_7 : PySem.W.kitOne K (.ref C_NotANamer) (.ref C_InvalidLine) = some false)
    (x_me_kr_NotANamer_8 : PySem.W.kitOne K (.ref C_NotANamer) (.ref C_NotANamer) = some true)
    (x_me_kr_NotANamer_9 : PySem.W.kitOne K (.ref C_NotANamer) (.ref C_NotAShelf) = some false)
    (x_me_kr_NotANamer_10 : PySem.W.kitOne K (.ref C_NotANamer) (.ref C_InvalidRow) = some false)
    (x_me_kr_NotANamer_11 : PySem.W.kitOne K (.ref C_NotANamer) (.ref C_InvalidViews) = some false)
    (x_me_kr_NotANamer_12 : PySem.W.kitOne K (.ref C_NotANamer) (.ref C_InvalidTexts) = some false)
    (x_me_kr_NotANamer_13 : PySem.W.kitOne K (.ref C_NotANamer) (.ref C_InvalidDeeds) = some false)
    (x_me_kr_NotANamer_14 : PySem.W.kitOne K (.ref C_NotANamer) (.ref C_NothingToUndo) = some false)
    (x_me_kr_NotANamer_15 : PySem.W.kitOne K (.ref C_NotANamer) (.ref C_Busy) = some false)
    (x_me_kr_NotANamer_16 : PySem.W.kitOne K (.ref C_NotANamer) (.ref C_UnknownName) = some false)
    (x_me_kr_NotANamer_17 : PySem.W.kitOne K (.ref C_NotANamer) (.ref C_TooMany) = some false)
    (x_me_kr_NotANamer_18 : PySem.W.kitOne K (.ref C_NotANamer) (.ref C_InputError) = some true)
    (x_me_kr_NotANamer_19 : PySem.W.kitOne K (.ref C_NotANamer) (.ref C_StateError) = some false)
    (x_me_kr_NotANamer_20 : PySem.W.kitOne K (.ref C_NotANamer) (.ref C_SizeError) = some false)
    (x_me_kr_NotANamer_21 : PySem.W.kitOne K (.ref C_NotANamer) (.type "ValueError") = some true)
    (x_me_kr_NotANamer_22 : PySem.W.kitOne K (.ref C_NotANamer) (.type "LookupError") = some false)
    (x_me_kr_NotANamer_23 : PySem.W.kitOne K (.ref C_NotANamer) (.type "ArithmeticError") = some false)
    (x_ga_InvalidTexts : PySem.W.findIn K (.ref C_InvalidTexts) "__getattribute__" = some (some (.builtin "BaseException.__getattribute__")))
    (x_gg_InvalidTexts : PySem.W.findIn K (.ref C_InvalidTexts) "__getattr__" = some none)
    (x_xd_InvalidTexts : PySem.W.hasDictIn K C_InvalidTexts = true)
    (x_xa_InvalidTexts : PySem.W.findIn K (.ref C_InvalidTexts) "__class__" = some (some (.builtin "object.__class__")))
    (x_xn_InvalidTexts : PySem.W.specialIn K (.builtin "object.__class__") "__get__" = some (some (.builtin "getset_descriptor.__get__")))
    (x_xq_InvalidTexts : PySem.W.takesIn K (.builtin "object.__class__") = some true)
    (x_xm_InvalidTexts : PySem.W.mroIn K C_InvalidTexts (.type "object") = some true)
    (x_me_kr_InvalidTexts_0 : PySem.W.kitOne K (.ref C_InvalidTexts) (.ref C_InvalidNumber) = some false)
    (x_me_kr_InvalidTexts_1 : PySem.W.kitOne K (.ref C_InvalidTexts) (.ref C_InvalidMark) = some false)
    (x_me_kr_InvalidTexts_2 : PySem.W.kitOne K (.ref C_InvalidTexts) (.ref C_InvalidText) = some false)
    (x_me_kr_InvalidTexts_3 : PySem.W.kitOne K (.ref C_InvalidTexts) (.ref C_InvalidLength) = some false)
    (x_me_kr_InvalidTexts_4 : PySem.W.kitOne K (.ref C_InvalidTexts) (.ref C_InvalidRule) = some false)
    (x_me_kr_InvalidTexts_5 : PySem.W.kitOne K (.ref C_InvalidTexts) (.ref C_InvalidWidth) = some false)
    (x_me_kr_InvalidTexts_6 : PySem.W.kitOne K (.ref C_InvalidTexts) (.ref C_InvalidPlace) = some false)
    (x_me_kr_InvalidTexts_7 : PySem.W.kitOne K (.ref C_InvalidTexts) (.ref C_InvalidLine) = some false)
    (x_me_kr_InvalidTexts_8 : PySem.W.kitOne K (.ref C_InvalidTexts) (.ref C_NotANamer) = some false)
    (x_me_kr_InvalidTexts_9 : PySem.W.kitOne K (.ref C_InvalidTexts) (.ref C_NotAShelf) = some false)
    (x_me_kr_InvalidTexts_10 : PySem.W.kitOne K (.ref C_InvalidTexts) (.ref C_InvalidRow) = some false)
    (x_me_kr_InvalidTexts_11 : PySem.W.kitOne K (.ref C_InvalidTexts) (.ref C_InvalidViews) = some false)
    (x_me_kr_InvalidTexts_12 : PySem.W.kitOne K (.ref C_InvalidTexts) (.ref C_InvalidTexts) = some true)
    (x_me_kr_InvalidTexts_13 : PySem.W.kitOne K (.ref C_InvalidTexts) (.ref C_InvalidDeeds) = some false)
    (x_me_kr_InvalidTexts_14 : PySem.W.kitOne K (.ref C_InvalidTexts) (.ref C_NothingToUndo) = some false)
    (x_me_kr_InvalidTexts_15 : PySem.W.kitOne K (.ref C_InvalidTexts) (.ref C_Busy) = some false)
    (x_me_kr_InvalidTexts_16 : PySem.W.kitOne K (.ref C_InvalidTexts) (.ref C_UnknownName) = some false)
    (x_me_kr_InvalidTexts_17 : PySem.W.kitOne K (.ref C_InvalidTexts) (.ref C_TooMany) = some false)
    (x_me_kr_InvalidTexts_18 : PySem.W.kitOne K (.ref C_InvalidTexts) (.ref C_InputError) = some true)
    (x_me_kr_InvalidTexts_19 : PySem.W.kitOne K (.ref C_InvalidTexts) (.ref C_StateError) = some false)
    (x_me_kr_InvalidTexts_20 : PySem.W.kitOne K (.ref C_InvalidTexts) (.ref C_SizeError) = some false)
    (x_me_kr_InvalidTexts_21 : PySem.W.kitOne K (.ref C_InvalidTexts) (.type "ValueError") = some true)
    (x_me_kr_InvalidTexts_22 : PySem.W.kitOne K (.ref C_InvalidTexts) (.type "LookupError") = some false)
    (x_me_kr_InvalidTexts_23 : PySem.W.kitOne K (.ref C_InvalidTexts) (.type "ArithmeticError") = some false)
    (x_ga_InvalidPlace : PySem.W.findIn K (.ref C_InvalidPlace) "__getattribute__" = some (some (.builtin "BaseException.__getattribute__")))
    (x_gg_InvalidPlace : PySem.W.findIn K (.ref C_InvalidPlace) "__getattr__" = some none)
    (x_xd_InvalidPlace : PySem.W.hasDictIn K C_InvalidPlace = true)
    (x_xa_InvalidPlace : PySem.W.findIn K (.ref C_InvalidPlace) "__class__" = some (some (.builtin "object.__class__")))
    (x_xn_InvalidPlace : PySem.W.specialIn K (.builtin "object.__class__") "__get__" = some (some (.builtin "getset_descriptor.__get__")))
    (x_xq_InvalidPlace : PySem.W.takesIn K (.builtin "object.__class__") = some true)
    (x_xm_InvalidPlace : PySem.W.mroIn K C_InvalidPlace (.type "object") = some true)
    (x_me_kr_InvalidPlace_0 : PySem.W.kitOne K (.ref C_InvalidPlace) (.ref C_InvalidNumber) = some false)
    (x_me_kr_InvalidPlace_1 : PySem.W.kitOne K (.ref C_InvalidPlace) (.ref C_InvalidMark) = some false)
    (x_me_kr_InvalidPlace_2 : PySem.W.kitOne K (.ref C_InvalidPlace) (.ref C_InvalidText) = some false)
    (x_me_kr_InvalidPlace_3 : PySem.W.kitOne K (.ref C_InvalidPlace) (.ref C_InvalidLength) = some false)
    (x_me_kr_InvalidPlace_4 : PySem.W.kitOne K (.ref C_InvalidPlace) (.ref C_InvalidRule) = some false)
    (x_me_kr_InvalidPlace_5 : PySem.W.kitOne K (.ref C_InvalidPlace) (.ref C_InvalidWidth) = some false)
    (x_me_kr_InvalidPlace_6 : PySem.W.kitOne K (.ref C_InvalidPlace) (.ref C_InvalidPlace) = some true)
    (x_me_kr_InvalidPlace_7 : PySem.W.kitOne K (.ref C_InvalidPlace) (.ref C_InvalidLine) = some false)
    (x_me_kr_InvalidPlace_8 : PySem.W.kitOne K (.ref C_InvalidPlace) (.ref C_NotANamer) = some false)
    (x_me_kr_InvalidPlace_9 : PySem.W.kitOne K (.ref C_InvalidPlace) (.ref C_NotAShelf) = some false)
    (x_me_kr_InvalidPlace_10 : PySem.W.kitOne K (.ref C_InvalidPlace) (.ref C_InvalidRow) = some false)
    (x_me_kr_InvalidPlace_11 : PySem.W.kitOne K (.ref C_InvalidPlace) (.ref C_InvalidViews) = some false)
    (x_me_kr_InvalidPlace_12 : PySem.W.kitOne K (.ref C_InvalidPlace) (.ref C_InvalidTexts) = some false)
    (x_me_kr_InvalidPlace_13 : PySem.W.kitOne K (.ref C_InvalidPlace) (.ref C_InvalidDeeds) = some false)
    (x_me_kr_InvalidPlace_14 : PySem.W.kitOne K (.ref C_InvalidPlace) (.ref C_NothingToUndo) = some false)
    (x_me_kr_InvalidPlace_15 : PySem.W.kitOne K (.ref C_InvalidPlace) (.ref C_Busy) = some false)
    (x_me_kr_InvalidPlace_16 : PySem.W.kitOne K (.ref C_InvalidPlace) (.ref C_UnknownName) = some false)
    (x_me_kr_InvalidPlace_17 : PySem.W.kitOne K (.ref C_InvalidPlace) (.ref C_TooMany) = some false)
    (x_me_kr_InvalidPlace_18 : PySem.W.kitOne K (.ref C_InvalidPlace) (.ref C_InputError) = some true)
    (x_me_kr_InvalidPlace_19 : PySem.W.kitOne K (.ref C_InvalidPlace) (.ref C_StateError) = some false)
    (x_me_kr_InvalidPlace_20 : PySem.W.kitOne K (.ref C_InvalidPlace) (.ref C_SizeError) = some false)
    (x_me_kr_InvalidPlace_21 : PySem.W.kitOne K (.ref C_InvalidPlace) (.type "ValueError") = some true)
    (x_me_kr_InvalidPlace_22 : PySem.W.kitOne K (.ref C_InvalidPlace) (.type "LookupError") = some false)
    (x_me_kr_InvalidPlace_23 : PySem.W.kitOne K (.ref C_InvalidPlace) (.type "ArithmeticError") = some false)
    (x_me_eh_InputError_InputError : PySem.W.exmOne K (.ref C_InputError) (.ref C_InputError) = some true)
    (x_me_eh_StateError_InputError : PySem.W.exmOne K (.ref C_StateError) (.ref C_InputError) = some false)
    (x_me_eh_SizeError_InputError : PySem.W.exmOne K (.ref C_SizeError) (.ref C_InputError) = some false)
    (x_me_eh_InvalidNumber_InputError : PySem.W.exmOne K (.ref C_InvalidNumber) (.ref C_InputError) = some true)
    (x_me_eh_InvalidMark_InputError : PySem.W.exmOne K (.ref C_InvalidMark) (.ref C_InputError) = some true)
    (x_me_eh_InvalidText_InputError : PySem.W.exmOne K (.ref C_InvalidText) (.ref C_InputError) = some true)
    (x_me_eh_InvalidLength_InputError : PySem.W.exmOne K (.ref C_InvalidLength) (.ref C_InputError) = some true)
    (x_me_eh_InvalidRule_InputError : PySem.W.exmOne K (.ref C_InvalidRule) (.ref C_InputError) = some true)
    (x_me_eh_InvalidWidth_InputError : PySem.W.exmOne K (.ref C_InvalidWidth) (.ref C_InputError) = some true)
    (x_me_eh_InvalidPlace_InputError : PySem.W.exmOne K (.ref C_InvalidPlace) (.ref C_InputError) = some true)
    (x_me_eh_InvalidLine_InputError : PySem.W.exmOne K (.ref C_InvalidLine) (.ref C_InputError) = some true)
    (x_me_eh_NotANamer_InputError : PySem.W.exmOne K (.ref C_NotANamer) (.ref C_InputError) = some true)
    (x_me_eh_NotAShelf_InputError : PySem.W.exmOne K (.ref C_NotAShelf) (.ref C_InputError) = some true)
    (x_me_eh_InvalidRow_InputError : PySem.W.exmOne K (.ref C_InvalidRow) (.ref C_InputError) = some true)
    (x_me_eh_InvalidViews_InputError : PySem.W.exmOne K (.ref C_InvalidViews) (.ref C_InputError) = some true)
    (x_me_eh_InvalidTexts_InputError : PySem.W.exmOne K (.ref C_InvalidTexts) (.ref C_InputError) = some true)
    (x_me_eh_InvalidDeeds_InputError : PySem.W.exmOne K (.ref C_InvalidDeeds) (.ref C_InputError) = some true)
    (x_me_eh_NothingToUndo_InputError : PySem.W.exmOne K (.ref C_NothingToUndo) (.ref C_InputError) = some false)
    (x_me_eh_Busy_InputError : PySem.W.exmOne K (.ref C_Busy) (.ref C_InputError) = some false)
    (x_me_eh_UnknownName_InputError : PySem.W.exmOne K (.ref C_UnknownName) (.ref C_InputError) = some false)
    (x_me_eh_TooMany_InputError : PySem.W.exmOne K (.ref C_TooMany) (.ref C_InputError) = some false)
    (x_me_eh_InputError_SizeError : PySem.W.exmOne K (.ref C_InputError) (.ref C_SizeError) = some false)
    (x_me_eh_StateError_SizeError : PySem.W.exmOne K (.ref C_StateError) (.ref C_SizeError) = some false)
    (x_me_eh_SizeError_SizeError : PySem.W.exmOne K (.ref C_SizeError) (.ref C_SizeError) = some true)
    (x_me_eh_InvalidNumber_SizeError : PySem.W.exmOne K (.ref C_InvalidNumber) (.ref C_SizeError) = some false)
    (x_me_eh_InvalidMark_SizeError : PySem.W.exmOne K (.ref C_InvalidMark) (.ref C_SizeError) = some false)
    (x_me_eh_InvalidText_SizeError : PySem.W.exmOne K (.ref C_InvalidText) (.ref C_SizeError) = some false)
    (x_me_eh_InvalidLength_SizeError : PySem.W.exmOne K (.ref C_InvalidLength) (.ref C_SizeError) = some false)
    (x_me_eh_InvalidRule_SizeError : PySem.W.exmOne K (.ref C_InvalidRule) (.ref C_SizeError) = some false)
    (x_me_eh_InvalidWidth_SizeError : PySem.W.exmOne K (.ref C_InvalidWidth) (.ref C_SizeError) = some false)
    (x_me_eh_InvalidPlace_SizeError : PySem.W.exmOne K (.ref C_InvalidPlace) (.ref C_SizeError) = some false)
    (x_me_eh_InvalidLine_SizeError : PySem.W.exmOne K (.ref C_InvalidLine) (.ref C_SizeError) = some false)
    (x_me_eh_NotANamer_SizeError : PySem.W.exmOne K (.ref C_NotANamer) (.ref C_SizeError) = some false)
    (x_me_eh_NotAShelf_SizeError : PySem.W.exmOne K (.ref C_NotAShelf) (.ref C_SizeError) = some false)
    (x_me_eh_InvalidRow_SizeError : PySem.W.exmOne K (.ref C_InvalidRow) (.ref C_SizeError) = some false)
    (x_me_eh_InvalidViews_SizeError : PySem.W.exmOne K (.ref C_InvalidViews) (.ref C_SizeError) = some false)
    (x_me_eh_InvalidTexts_SizeError : PySem.W.exmOne K (.ref C_InvalidTexts) (.ref C_SizeError) = some false)
    (x_me_eh_InvalidDeeds_SizeError : PySem.W.exmOne K (.ref C_InvalidDeeds) (.ref C_SizeError) = some false)
    (x_me_eh_NothingToUndo_SizeError : PySem.W.exmOne K (.ref C_NothingToUndo) (.ref C_SizeError) = some false)
    (x_me_eh_Busy_SizeError : PySem.W.exmOne K (.ref C_Busy) (.ref C_SizeError) = some false)
    (x_me_eh_UnknownName_SizeError : PySem.W.exmOne K (.ref C_UnknownName) (.ref C_SizeError) = some false)
    (x_me_eh_TooMany_SizeError : PySem.W.exmOne K (.ref C_TooMany) (.ref C_SizeError) = some true)
    (x_me_eh_InputError_StateError : PySem.W.exmOne K (.ref C_InputError) (.ref C_StateError) = some false)
    (x_me_eh_StateError_StateError : PySem.W.exmOne K (.ref C_StateError) (.ref C_StateError) = some true)
    (x_me_eh_SizeError_StateError : PySem.W.exmOne K (.ref C_SizeError) (.ref C_StateError) = some false)
    (x_me_eh_InvalidNumber_StateError : PySem.W.exmOne K (.ref C_InvalidNumber) (.ref C_StateError) = some false)
    (x_me_eh_InvalidMark_StateError : PySem.W.exmOne K (.ref C_InvalidMark) (.ref C_StateError) = some false)
    (x_me_eh_InvalidText_StateError : PySem.W.exmOne K (.ref C_InvalidText) (.ref C_StateError) = some false)
    (x_me_eh_InvalidLength_StateError : PySem.W.exmOne K (.ref C_InvalidLength) (.ref C_StateError) = some false)
    (x_me_eh_InvalidRule_StateError : PySem.W.exmOne K (.ref C_InvalidRule) (.ref C_StateError) = some false)
    (x_me_eh_InvalidWidth_StateError : PySem.W.exmOne K (.ref C_InvalidWidth) (.ref C_StateError) = some false)
    (x_me_eh_InvalidPlace_StateError : PySem.W.exmOne K (.ref C_InvalidPlace) (.ref C_StateError) = some false)
    (x_me_eh_InvalidLine_StateError : PySem.W.exmOne K (.ref C_InvalidLine) (.ref C_StateError) = some false)
    (x_me_eh_NotANamer_StateError : PySem.W.exmOne K (.ref C_NotANamer) (.ref C_StateError) = some false)
    (x_me_eh_NotAShelf_StateError : PySem.W.exmOne K (.ref C_NotAShelf) (.ref C_StateError) = some false)
    (x_me_eh_InvalidRow_StateError : PySem.W.exmOne K (.ref C_InvalidRow) (.ref C_StateError) = some false)
    (x_me_eh_InvalidViews_StateError : PySem.W.exmOne K (.ref C_InvalidViews) (.ref C_StateError) = some false)
    (x_me_eh_InvalidTexts_StateError : PySem.W.exmOne K (.ref C_InvalidTexts) (.ref C_StateError) = some false)
    (x_me_eh_InvalidDeeds_StateError : PySem.W.exmOne K (.ref C_InvalidDeeds) (.ref C_StateError) = some false)
    (x_me_eh_NothingToUndo_StateError : PySem.W.exmOne K (.ref C_NothingToUndo) (.ref C_StateError) = some true)
    (x_me_eh_Busy_StateError : PySem.W.exmOne K (.ref C_Busy) (.ref C_StateError) = some true)
    (x_me_eh_UnknownName_StateError : PySem.W.exmOne K (.ref C_UnknownName) (.ref C_StateError) = some true)
    (x_me_eh_TooMany_StateError : PySem.W.exmOne K (.ref C_TooMany) (.ref C_StateError) = some false)
    (x_C_Namer : PySem.W.nsIn K mainGlobals "Namer" = some (some (.ref C_Namer)))
    (x_pg_Namer : PySem.W.plainGet K C_Namer Str.empty = true)
    (x_hd_Namer : PySem.W.hasDictIn K C_Namer = true)
    (x_po_Namer : PySem.W.plainOver K C_Namer = true)
    (x_sa_Namer : PySem.W.findIn K (.ref C_Namer) "__setattr__" = some (some (.builtin "object.__setattr__")))
    (x_mk_Namer : PySem.W.makesIn K C_Namer = true)
    (x_kc_Namer : PySem.W.keepIn K (.ref C_Namer) = true)
    (x_ha_Namer : PySem.W.findIn K (.ref C_Namer) "__class__" = some (some (.builtin "object.__class__")))
    (x_hn_Namer : PySem.W.specialIn K (.builtin "object.__class__") "__get__" = some (some (.builtin "getset_descriptor.__get__")))
    (x_ht_Namer : PySem.W.takesIn K (.builtin "object.__class__") = some true)
    (x_hm_Namer : PySem.W.mroIn K C_Namer (.type "object") = some true)
    (x_me_Namer : PySem.W.kitOne K (.ref C_Namer) (.ref C_Namer) = some true)
    (x_na_Namer_rule : PySem.W.findIn K (.ref C_Namer) "rule" = some none)
    (x_na_Namer_width : PySem.W.findIn K (.ref C_Namer) "width" = some none)
    (x_ne_Namer : PySem.W.findIn K (.ref C_Namer) "__ne__" = some (some (.builtin "object.__ne__")))
    (x_non_Namer : PySem.W.subIn K (.type "NoneType") (.ref C_Namer) = some false)
    (x_nos_Namer : PySem.W.subIn K (.type "str") (.ref C_Namer) = some false)
    (x_not_Namer : PySem.W.subIn K (.type "tuple") (.ref C_Namer) = some false)
    (x_noi_Namer : PySem.W.subIn K (.type "int") (.ref C_Namer) = some false)
    (x_nol_Namer : PySem.W.subIn K (.type "list") (.ref C_Namer) = some false)
    (x_me_kn_Namer : PySem.W.kitOne K (.type "NoneType") (.ref C_Namer) = some false)
    (x_me_ks_Namer : PySem.W.kitOne K (.type "str") (.ref C_Namer) = some false)
    (x_me_ktt_Namer : PySem.W.kitOne K (.type "tuple") (.ref C_Namer) = some false)
    (x_me_kt_Namer_NoneType : PySem.W.kitOne K (.type "NoneType") (.ref C_Namer) = some false)
    (x_me_kt_Namer_bool : PySem.W.kitOne K (.type "bool") (.ref C_Namer) = some false)
    (x_me_kt_Namer_int : PySem.W.kitOne K (.type "int") (.ref C_Namer) = some false)
    (x_me_kt_Namer_str : PySem.W.kitOne K (.type "str") (.ref C_Namer) = some false)
    (x_me_kt_Namer_list : PySem.W.kitOne K (.type "list") (.ref C_Namer) = some false)
    (x_me_kt_Namer_tuple : PySem.W.kitOne K (.type "tuple") (.ref C_Namer) = some false)
    (x_me_kt_Namer_dict : PySem.W.kitOne K (.type "dict") (.ref C_Namer) = some false)
    (x_me_kx_Namer_int : PySem.W.kitOne K (.ref C_Namer) (.type "int") = some false)
    (x_me_kx_Namer_bool : PySem.W.kitOne K (.ref C_Namer) (.type "bool") = some false)
    (x_me_kx_Namer_str : PySem.W.kitOne K (.ref C_Namer) (.type "str") = some false)
    (x_me_kx_Namer_list : PySem.W.kitOne K (.ref C_Namer) (.type "list") = some false)
    (x_me_kx_Namer_tuple : PySem.W.kitOne K (.ref C_Namer) (.type "tuple") = some false)
    (x_me_kx_Namer_dict : PySem.W.kitOne K (.ref C_Namer) (.type "dict") = some false)
    (x_a_Namer___init__ : PySem.W.findIn K (.ref C_Namer) "__init__" = some (some (.ref f_Namer___init__)))
    (x_i_Namer___init__ : PySem.W.isFn K (.ref f_Namer___init__) = true)
    (x_l_Namer___init__ : K.lookup f_Namer___init__ = some ⟨oc_Namer___init__, od_Namer___init__, .func (PySem.W.fnOf "__init__" "Namer.__init__" (L2.defArgs s_Namer___init__) (L2.defBody s_Namer___init__) (L2.defScope s_Namer___init__) .none kV_Namer___init__ dc_Namer___init__ pm_Namer___init__ an_Namer___init__ cd_Namer___init__ ct_Namer___init__), sl_Namer___init__⟩)
    (x_c_Namer___init__ : PySem.W.codeIn K cd_Namer___init__ "Namer.__init__" = true)
    (x_k_Namer___init__ : PySem.W.keepIn K (.ref f_Namer___init__) = true)
    (x_a_Namer_base_of : PySem.W.findIn K (.ref C_Namer) "base_of" = some (some (.ref f_Namer_base_of)))
    (x_i_Namer_base_of : PySem.W.isFn K (.ref f_Namer_base_of) = true)
    (x_l_Namer_base_of : K.lookup f_Namer_base_of = some ⟨oc_Namer_base_of, od_Namer_base_of, .func (PySem.W.fnOf "base_of" "Namer.base_of" (L2.defArgs s_Namer_base_of) (L2.defBody s_Namer_base_of) (L2.defScope s_Namer_base_of) .none kV_Namer_base_of dc_Namer_base_of pm_Namer_base_of an_Namer_base_of cd_Namer_base_of ct_Namer_base_of), sl_Namer_base_of⟩)
    (x_c_Namer_base_of : PySem.W.codeIn K cd_Namer_base_of "Namer.base_of" = true)
    (x_k_Namer_base_of : PySem.W.keepIn K (.ref f_Namer_base_of) = true)
    (x_a_Namer_numbered : PySem.W.findIn K (.ref C_Namer) "numbered" = some (some (.ref f_Namer_numbered)))
    (x_i_Namer_numbered : PySem.W.isFn K (.ref f_Namer_numbered) = true)
    (x_l_Namer_numbered : K.lookup f_Namer_numbered = some ⟨oc_Namer_numbered, od_Namer_numbered, .func (PySem.W.fnOf "numbered" "Namer.numbered" (L2.defArgs s_Namer_numbered) (L2.defBody s_Namer_numbered) (L2.defScope s_Namer_numbered) .none kV_Namer_numbered dc_Namer_numbered pm_Namer_numbered an_Namer_numbered cd_Namer_numbered ct_Namer_numbered), sl_Namer_numbered⟩)
    (x_c_Namer_numbered : PySem.W.codeIn K cd_Namer_numbered "Namer.numbered" = true)
    (x_k_Namer_numbered : PySem.W.keepIn K (.ref f_Namer_numbered) = true)
    (x_a_Namer_name_for : PySem.W.findIn K (.ref C_Namer) "name_for" = some (some (.ref f_Namer_name_for)))
    (x_i_Namer_name_for : PySem.W.isFn K (.ref f_Namer_name_for) = true)
    (x_l_Namer_name_for : K.lookup f_Namer_name_for = some ⟨oc_Namer_name_for, od_Namer_name_for, .func (PySem.W.fnOf "name_for" "Namer.name_for" (L2.defArgs s_Namer_name_for) (L2.defBody s_Namer_name_for) (L2.defScope s_Namer_name_for) .none kV_Namer_name_for dc_Namer_name_for pm_Namer_name_for an_Namer_name_for cd_Namer_name_for ct_Namer_name_for), sl_Namer_name_for⟩)
    (x_c_Namer_name_for : PySem.W.codeIn K cd_Namer_name_for "Namer.name_for" = true)
    (x_k_Namer_name_for : PySem.W.keepIn K (.ref f_Namer_name_for) = true)
    (x_a_Namer___eq__ : PySem.W.findIn K (.ref C_Namer) "__eq__" = some (some (.ref f_Namer___eq__)))
    (x_i_Namer___eq__ : PySem.W.isFn K (.ref f_Namer___eq__) = true)
    (x_l_Namer___eq__ : K.lookup f_Namer___eq__ = some ⟨oc_Namer___eq__, od_Namer___eq__, .func (PySem.W.fnOf "__eq__" "Namer.__eq__" (L2.defArgs s_Namer___eq__) (L2.defBody s_Namer___eq__) (L2.defScope s_Namer___eq__) .none kV_Namer___eq__ dc_Namer___eq__ pm_Namer___eq__ an_Namer___eq__ cd_Namer___eq__ ct_Namer___eq__), sl_Namer___eq__⟩)
    (x_c_Namer___eq__ : PySem.W.codeIn K cd_Namer___eq__ "Namer.__eq__" = true)
    (x_k_Namer___eq__ : PySem.W.keepIn K (.ref f_Namer___eq__) = true)
    (x_a_Namer___repr__ : PySem.W.findIn K (.ref C_Namer) "__repr__" = some (some (.ref f_Namer___repr__)))
    (x_i_Namer___repr__ : PySem.W.isFn K (.ref f_Namer___repr__) = true)
    (x_l_Namer___repr__ : K.lookup f_Namer___repr__ = some ⟨oc_Namer___repr__, od_Namer___repr__, .func (PySem.W.fnOf "__repr__" "Namer.__repr__" (L2.defArgs s_Namer___repr__) (L2.defBody s_Namer___repr__) (L2.defScope s_Namer___repr__) .none kV_Namer___repr__ dc_Namer___repr__ pm_Namer___repr__ an_Namer___repr__ cd_Namer___repr__ ct_Namer___repr__), sl_Namer___repr__⟩)
    (x_c_Namer___repr__ : PySem.W.codeIn K cd_Namer___repr__ "Namer.__repr__" = true)
    (x_k_Namer___repr__ : PySem.W.keepIn K (.ref f_Namer___repr__) = true)
    (x_a_is_integer : PySem.W.nsIn K mainGlobals "is_integer" = some (some (.ref f_is_integer)))
    (x_i_is_integer : PySem.W.isFn K (.ref f_is_integer) = true)
    (x_l_is_integer : K.lookup f_is_integer = some ⟨oc_is_integer, od_is_integer, .func (PySem.W.fnOf "is_integer" "is_integer" (L2.defArgs s_is_integer) (L2.defBody s_is_integer) (L2.defScope s_is_integer) .none kV_is_integer dc_is_integer pm_is_integer an_is_integer cd_is_integer ct_is_integer), sl_is_integer⟩)
    (x_c_is_integer : PySem.W.codeIn K cd_is_integer "is_integer" = true)
    (x_k_is_integer : PySem.W.keepIn K (.ref f_is_integer) = true)
    (x_a_is_text : PySem.W.nsIn K mainGlobals "is_text" = some (some (.ref f_is_text)))
    (x_i_is_text : PySem.W.isFn K (.ref f_is_text) = true)
    (x_l_is_text : K.lookup f_is_text = some ⟨oc_is_text, od_is_text, .func (PySem.W.fnOf "is_text" "is_text" (L2.defArgs s_is_text) (L2.defBody s_is_text) (L2.defScope s_is_text) .none kV_is_text dc_is_text pm_is_text an_is_text cd_is_text ct_is_text), sl_is_text⟩)
    (x_c_is_text : PySem.W.codeIn K cd_is_text "is_text" = true)
    (x_k_is_text : PySem.W.keepIn K (.ref f_is_text) = true)
    (x_a_check_namer : PySem.W.nsIn K mainGlobals "check_namer" = some (some (.ref f_check_namer)))
    (x_i_check_namer : PySem.W.isFn K (.ref f_check_namer) = true)
    (x_l_check_namer : K.lookup f_check_namer = some ⟨oc_check_namer, od_check_namer, .func (PySem.W.fnOf "check_namer" "check_namer" (L2.defArgs s_check_namer) (L2.defBody s_check_namer) (L2.defScope s_check_namer) .none kV_check_namer dc_check_namer pm_check_namer an_check_namer cd_check_namer ct_check_namer), sl_check_namer⟩)
    (x_c_check_namer : PySem.W.codeIn K cd_check_namer "check_namer" = true)
    (x_k_check_namer : PySem.W.keepIn K (.ref f_check_namer) = true)
    (x_a_check_texts : PySem.W.nsIn K mainGlobals "check_texts" = some (some (.ref f_check_texts)))
    (x_i_check_texts : PySem.W.isFn K (.ref f_check_texts) = true)
    (x_l_check_texts : K.lookup f_check_texts = some ⟨oc_check_texts, od_check_texts, .func (PySem.W.fnOf "check_texts" "check_texts" (L2.defArgs s_check_texts) (L2.defBody s_check_texts) (L2.defScope s_check_texts) .none kV_check_texts dc_check_texts pm_check_texts an_check_texts cd_check_texts ct_check_texts), sl_check_texts⟩)
    (x_c_check_texts : PySem.W.codeIn K cd_check_texts "check_texts" = true)
    (x_k_check_texts : PySem.W.keepIn K (.ref f_check_texts) = true)
    (x_a_names_of : PySem.W.nsIn K mainGlobals "names_of" = some (some (.ref f_names_of)))
    (x_i_names_of : PySem.W.isFn K (.ref f_names_of) = true)
    (x_l_names_of : K.lookup f_names_of = some ⟨oc_names_of, od_names_of, .func (PySem.W.fnOf "names_of" "names_of" (L2.defArgs s_names_of) (L2.defBody s_names_of) (L2.defScope s_names_of) .none kV_names_of dc_names_of pm_names_of an_names_of cd_names_of ct_names_of), sl_names_of⟩)
    (x_c_names_of : PySem.W.codeIn K cd_names_of "names_of" = true)
    (x_k_names_of : PySem.W.keepIn K (.ref f_names_of) = true)
    (x_a_orders_of : PySem.W.nsIn K mainGlobals "orders_of" = some (some (.ref f_orders_of)))
    (x_i_orders_of : PySem.W.isFn K (.ref f_orders_of) = true)
    (x_l_orders_of : K.lookup f_orders_of = some ⟨oc_orders_of, od_orders_of, .func (PySem.W.fnOf "orders_of" "orders_of" (L2.defArgs s_orders_of) (L2.defBody s_orders_of) (L2.defScope s_orders_of) .none kV_orders_of dc_orders_of pm_orders_of an_orders_of cd_orders_of ct_orders_of), sl_orders_of⟩)
    (x_c_orders_of : PySem.W.codeIn K cd_orders_of "orders_of" = true)
    (x_k_orders_of : PySem.W.keepIn K (.ref f_orders_of) = true)
    (x_a_names : PySem.W.nsIn K mainGlobals "names" = some (some (.ref f_names)))
    (x_i_names : PySem.W.isFn K (.ref f_names) = true)
    (x_l_names : K.lookup f_names = some ⟨oc_names, od_names, .func (PySem.W.fnOf "names" "names" (L2.defArgs s_names) (L2.defBody s_names) (L2.defScope s_names) .none kV_names dc_names pm_names an_names cd_names ct_names), sl_names⟩)
    (x_c_names : PySem.W.codeIn K cd_names "names" = true)
    (x_k_names : PySem.W.keepIn K (.ref f_names) = true)
    (x_a_meeting : PySem.W.nsIn K mainGlobals "meeting" = some (some (.ref f_meeting)))
    (x_i_meeting : PySem.W.isFn K (.ref f_meeting) = true)
    (x_l_meeting : K.lookup f_meeting = some ⟨oc_meeting, od_meeting, .func (PySem.W.fnOf "meeting" "meeting" (L2.defArgs s_meeting) (L2.defBody s_meeting) (L2.defScope s_meeting) .none kV_meeting dc_meeting pm_meeting an_meeting cd_meeting ct_meeting), sl_meeting⟩)
    (x_c_meeting : PySem.W.codeIn K cd_meeting "meeting" = true)
    (x_k_meeting : PySem.W.keepIn K (.ref f_meeting) = true)
    (x_a_possible_names : PySem.W.nsIn K mainGlobals "possible_names" = some (some (.ref f_possible_names)))
    (x_i_possible_names : PySem.W.isFn K (.ref f_possible_names) = true)
    (x_l_possible_names : K.lookup f_possible_names = some ⟨oc_possible_names, od_possible_names, .func (PySem.W.fnOf "possible_names" "possible_names" (L2.defArgs s_possible_names) (L2.defBody s_possible_names) (L2.defScope s_possible_names) .none kV_possible_names dc_possible_names pm_possible_names an_possible_names cd_possible_names ct_possible_names), sl_possible_names⟩)
    (x_c_possible_names : PySem.W.codeIn K cd_possible_names "possible_names" = true)
    (x_k_possible_names : PySem.W.keepIn K (.ref f_possible_names) = true)
    (x_a__law_source : PySem.W.nsIn K mainGlobals "_law_source" = some (some (.ref f__law_source)))
    (x_i__law_source : PySem.W.isFn K (.ref f__law_source) = true)
    (x_l__law_source : K.lookup f__law_source = some ⟨oc__law_source, od__law_source, .func (PySem.W.fnOf "_law_source" "_law_source" (L2.defArgs s__law_source) (L2.defBody s__law_source) (L2.defScope s__law_source) .none kV__law_source dc__law_source pm__law_source an__law_source cd__law_source ct__law_source), sl__law_source⟩)
    (x_c__law_source : PySem.W.codeIn K cd__law_source "_law_source" = true)
    (x_k__law_source : PySem.W.keepIn K (.ref f__law_source) = true)
    (x_a__law_draw : PySem.W.nsIn K mainGlobals "_law_draw" = some (some (.ref f__law_draw)))
    (x_i__law_draw : PySem.W.isFn K (.ref f__law_draw) = true)
    (x_l__law_draw : K.lookup f__law_draw = some ⟨oc__law_draw, od__law_draw, .func (PySem.W.fnOf "_law_draw" "_law_draw" (L2.defArgs s__law_draw) (L2.defBody s__law_draw) (L2.defScope s__law_draw) .none kV__law_draw dc__law_draw pm__law_draw an__law_draw cd__law_draw ct__law_draw), sl__law_draw⟩)
    (x_c__law_draw : PySem.W.codeIn K cd__law_draw "_law_draw" = true)
    (x_k__law_draw : PySem.W.keepIn K (.ref f__law_draw) = true)
    (x_a__law_one : PySem.W.nsIn K mainGlobals "_law_one" = some (some (.ref f__law_one)))
    (x_i__law_one : PySem.W.isFn K (.ref f__law_one) = true)
    (x_l__law_one : K.lookup f__law_one = some ⟨oc__law_one, od__law_one, .func (PySem.W.fnOf "_law_one" "_law_one" (L2.defArgs s__law_one) (L2.defBody s__law_one) (L2.defScope s__law_one) .none kV__law_one dc__law_one pm__law_one an__law_one cd__law_one ct__law_one), sl__law_one⟩)
    (x_c__law_one : PySem.W.codeIn K cd__law_one "_law_one" = true)
    (x_k__law_one : PySem.W.keepIn K (.ref f__law_one) = true)
    (x_a__law_stem : PySem.W.nsIn K mainGlobals "_law_stem" = some (some (.ref f__law_stem)))
    (x_i__law_stem : PySem.W.isFn K (.ref f__law_stem) = true)
    (x_l__law_stem : K.lookup f__law_stem = some ⟨oc__law_stem, od__law_stem, .func (PySem.W.fnOf "_law_stem" "_law_stem" (L2.defArgs s__law_stem) (L2.defBody s__law_stem) (L2.defScope s__law_stem) .none kV__law_stem dc__law_stem pm__law_stem an__law_stem cd__law_stem ct__law_stem), sl__law_stem⟩)
    (x_c__law_stem : PySem.W.codeIn K cd__law_stem "_law_stem" = true)
    (x_k__law_stem : PySem.W.keepIn K (.ref f__law_stem) = true)
    (x_a__law_refusal : PySem.W.nsIn K mainGlobals "_law_refusal" = some (some (.ref f__law_refusal)))
    (x_i__law_refusal : PySem.W.isFn K (.ref f__law_refusal) = true)
    (x_l__law_refusal : K.lookup f__law_refusal = some ⟨oc__law_refusal, od__law_refusal, .func (PySem.W.fnOf "_law_refusal" "_law_refusal" (L2.defArgs s__law_refusal) (L2.defBody s__law_refusal) (L2.defScope s__law_refusal) .none kV__law_refusal dc__law_refusal pm__law_refusal an__law_refusal cd__law_refusal ct__law_refusal), sl__law_refusal⟩)
    (x_c__law_refusal : PySem.W.codeIn K cd__law_refusal "_law_refusal" = true)
    (x_k__law_refusal : PySem.W.keepIn K (.ref f__law_refusal) = true)
    (x_a__law_tried : PySem.W.nsIn K mainGlobals "_law_tried" = some (some (.ref f__law_tried)))
    (x_i__law_tried : PySem.W.isFn K (.ref f__law_tried) = true)
    (x_l__law_tried : K.lookup f__law_tried = some ⟨oc__law_tried, od__law_tried, .func (PySem.W.fnOf "_law_tried" "_law_tried" (L2.defArgs s__law_tried) (L2.defBody s__law_tried) (L2.defScope s__law_tried) .none kV__law_tried dc__law_tried pm__law_tried an__law_tried cd__law_tried ct__law_tried), sl__law_tried⟩)
    (x_c__law_tried : PySem.W.codeIn K cd__law_tried "_law_tried" = true)
    (x_k__law_tried : PySem.W.keepIn K (.ref f__law_tried) = true)
    (x_a__law_is : PySem.W.nsIn K mainGlobals "_law_is" = some (some (.ref f__law_is)))
    (x_i__law_is : PySem.W.isFn K (.ref f__law_is) = true)
    (x_l__law_is : K.lookup f__law_is = some ⟨oc__law_is, od__law_is, .func (PySem.W.fnOf "_law_is" "_law_is" (L2.defArgs s__law_is) (L2.defBody s__law_is) (L2.defScope s__law_is) .none kV__law_is dc__law_is pm__law_is an__law_is cd__law_is ct__law_is), sl__law_is⟩)
    (x_c__law_is : PySem.W.codeIn K cd__law_is "_law_is" = true)
    (x_k__law_is : PySem.W.keepIn K (.ref f__law_is) = true)
    (x_a__law_is_text : PySem.W.nsIn K mainGlobals "_law_is_text" = some (some (.ref f__law_is_text)))
    (x_i__law_is_text : PySem.W.isFn K (.ref f__law_is_text) = true)
    (x_l__law_is_text : K.lookup f__law_is_text = some ⟨oc__law_is_text, od__law_is_text, .func (PySem.W.fnOf "_law_is_text" "_law_is_text" (L2.defArgs s__law_is_text) (L2.defBody s__law_is_text) (L2.defScope s__law_is_text) .none kV__law_is_text dc__law_is_text pm__law_is_text an__law_is_text cd__law_is_text ct__law_is_text), sl__law_is_text⟩)
    (x_c__law_is_text : PySem.W.codeIn K cd__law_is_text "_law_is_text" = true)
    (x_k__law_is_text : PySem.W.keepIn K (.ref f__law_is_text) = true)
    (x_a__law_odd : PySem.W.nsIn K mainGlobals "_law_odd" = some (some (.ref f__law_odd)))
    (x_i__law_odd : PySem.W.isFn K (.ref f__law_odd) = true)
    (x_l__law_odd : K.lookup f__law_odd = some ⟨oc__law_odd, od__law_odd, .func (PySem.W.fnOf "_law_odd" "_law_odd" (L2.defArgs s__law_odd) (L2.defBody s__law_odd) (L2.defScope s__law_odd) .none kV__law_odd dc__law_odd pm__law_odd an__law_odd cd__law_odd ct__law_odd), sl__law_odd⟩)
    (x_c__law_odd : PySem.W.codeIn K cd__law_odd "_law_odd" = true)
    (x_k__law_odd : PySem.W.keepIn K (.ref f__law_odd) = true)
    (x_a__law_line : PySem.W.nsIn K mainGlobals "_law_line" = some (some (.ref f__law_line)))
    (x_i__law_line : PySem.W.isFn K (.ref f__law_line) = true)
    (x_l__law_line : K.lookup f__law_line = some ⟨oc__law_line, od__law_line, .func (PySem.W.fnOf "_law_line" "_law_line" (L2.defArgs s__law_line) (L2.defBody s__law_line) (L2.defScope s__law_line) .none kV__law_line dc__law_line pm__law_line an__law_line cd__law_line ct__law_line), sl__law_line⟩)
    (x_c__law_line : PySem.W.codeIn K cd__law_line "_law_line" = true)
    (x_k__law_line : PySem.W.keepIn K (.ref f__law_line) = true)
    (x_a__law_due : PySem.W.nsIn K mainGlobals "_law_due" = some (some (.ref f__law_due)))
    (x_i__law_due : PySem.W.isFn K (.ref f__law_due) = true)
    (x_l__law_due : K.lookup f__law_due = some ⟨oc__law_due, od__law_due, .func (PySem.W.fnOf "_law_due" "_law_due" (L2.defArgs s__law_due) (L2.defBody s__law_due) (L2.defScope s__law_due) .none kV__law_due dc__law_due pm__law_due an__law_due cd__law_due ct__law_due), sl__law_due⟩)
    (x_c__law_due : PySem.W.codeIn K cd__law_due "_law_due" = true)
    (x_k__law_due : PySem.W.keepIn K (.ref f__law_due) = true)
    (x_a__law_fits : PySem.W.nsIn K mainGlobals "_law_fits" = some (some (.ref f__law_fits)))
    (x_i__law_fits : PySem.W.isFn K (.ref f__law_fits) = true)
    (x_l__law_fits : K.lookup f__law_fits = some ⟨oc__law_fits, od__law_fits, .func (PySem.W.fnOf "_law_fits" "_law_fits" (L2.defArgs s__law_fits) (L2.defBody s__law_fits) (L2.defScope s__law_fits) .none kV__law_fits dc__law_fits pm__law_fits an__law_fits cd__law_fits ct__law_fits), sl__law_fits⟩)
    (x_c__law_fits : PySem.W.codeIn K cd__law_fits "_law_fits" = true)
    (x_k__law_fits : PySem.W.keepIn K (.ref f__law_fits) = true)
    (x_a__law_right : PySem.W.nsIn K mainGlobals "_law_right" = some (some (.ref f__law_right)))
    (x_i__law_right : PySem.W.isFn K (.ref f__law_right) = true)
    (x_l__law_right : K.lookup f__law_right = some ⟨oc__law_right, od__law_right, .func (PySem.W.fnOf "_law_right" "_law_right" (L2.defArgs s__law_right) (L2.defBody s__law_right) (L2.defScope s__law_right) .none kV__law_right dc__law_right pm__law_right an__law_right cd__law_right ct__law_right), sl__law_right⟩)
    (x_c__law_right : PySem.W.codeIn K cd__law_right "_law_right" = true)
    (x_k__law_right : PySem.W.keepIn K (.ref f__law_right) = true)
    (x_a_law : PySem.W.nsIn K mainGlobals "law" = some (some (.ref f_law)))
    (x_i_law : PySem.W.isFn K (.ref f_law) = true)
    (x_l_law : K.lookup f_law = some ⟨oc_law, od_law, .func (PySem.W.fnOf "law" "law" (L2.defArgs s_law) (L2.defBody s_law) (L2.defScope s_law) .none kV_law dc_law pm_law an_law cd_law ct_law), sl_law⟩)
    (x_c_law : PySem.W.codeIn K cd_law "law" = true)
    (x_k_law : PySem.W.keepIn K (.ref f_law) = true)
    (x_me_tb__law_right : PySem.W.tabIn K "_law_right" = some (cc__law_right, PP__law_right))
    (x_me_cd__law_right : cd__law_right = .ref cc__law_right)
    (x_me_hd__law_right : PySem.W.codeHdIn K cc__law_right PP__law_right = true)
    (x_me_np__law_right : K.lookup PP__law_right = none)
    (x_tab__law_right : h.get? PP__law_right = some { cls := .none, data := .fields #[] })
    (x_me_ps__law_right : (PP__law_right == sysModules) = false) : ∃ T : Tx K mg, T.f_law = f_law ∧ h.get? T.PP__law_right = some { cls := .none, data := .fields #[] } := by
  exact ⟨⟨PySem.W.mg_none_of X G x_n_ArithmeticError,
    PySem.W.mg_none_of X G x_n_LookupError,
    PySem.W.mg_none_of X G x_n_ValueError,
    PySem.W.mg_none_of X G x_n_abs,
    PySem.W.mg_none_of X G x_n_all,
    PySem.W.mg_none_of X G x_n_bool,
    PySem.W.mg_none_of X G x_n_divmod,
    PySem.W.mg_none_of X G x_n_enumerate,
    PySem.W.mg_none_of X G x_n_int,
    PySem.W.mg_none_of X G x_n_isinstance,
    PySem.W.mg_none_of X G x_n_len,
    PySem.W.mg_none_of X G x_n_list,
    PySem.W.mg_none_of X G x_n_max,
    PySem.W.mg_none_of X G x_n_min,
    PySem.W.mg_none_of X G x_n_range,
    PySem.W.mg_none_of X G x_n_repr,
    PySem.W.mg_none_of X G x_n_set,
    PySem.W.mg_none_of X G x_n_sorted,
    PySem.W.mg_none_of X G x_n_str,
    PySem.W.mg_none_of X G x_n_tuple,
    ⟨_, PySem.W.mg_of X G x_k_MOST_SIGNS, _, rfl⟩,
    ⟨_, PySem.W.mg_of X G x_k_MOST_TEXT, _, rfl⟩,
    ⟨_, PySem.W.mg_of X G x_k_MOST_LISTED, _, rfl⟩,
    ⟨_, PySem.W.mg_of X G x_k_SIGNS, _, rfl⟩,
    ad_RULES,
    PySem.W.mg_of X G x_m_RULES,
    fun _ => .inr ⟨_, _, _, x_q_RULES, rfl, rfl, (by show 3 ≤ sizeLine; decide), .cons ⟨_, rfl⟩ (.cons ⟨_, rfl⟩ (.cons ⟨_, rfl⟩ (.nil)))⟩,
    ⟨_, PySem.W.mg_of X G x_k_LEAST_WIDTH, _, rfl⟩,
    ⟨_, PySem.W.mg_of X G x_k_FIRST_NUMBER, _, rfl⟩,
    C_InputError,
    PySem.W.mg_of X G x_C_InputError,
    C_StateError,
    PySem.W.mg_of X G x_C_StateError,
    C_SizeError,
    PySem.W.mg_of X G x_C_SizeError,
    C_InvalidNumber,
    PySem.W.mg_of X G x_C_InvalidNumber,
    C_InvalidMark,
    PySem.W.mg_of X G x_C_InvalidMark,
    C_InvalidText,
    PySem.W.mg_of X G x_C_InvalidText,
    C_InvalidLength,
    PySem.W.mg_of X G x_C_InvalidLength,
    C_InvalidRule,
    PySem.W.mg_of X G x_C_InvalidRule,
    C_InvalidWidth,
    PySem.W.mg_of X G x_C_InvalidWidth,
    C_InvalidPlace,
    PySem.W.mg_of X G x_C_InvalidPlace,
    C_InvalidLine,
    PySem.W.mg_of X G x_C_InvalidLine,
    C_NotANamer,
    PySem.W.mg_of X G x_C_NotANamer,
    C_NotAShelf,
    PySem.W.mg_of X G x_C_NotAShelf,
    C_InvalidRow,
    PySem.W.mg_of X G x_C_InvalidRow,
    C_InvalidViews,
    PySem.W.mg_of X G x_C_InvalidViews,
    C_InvalidTexts,
    PySem.W.mg_of X G x_C_InvalidTexts,
    C_InvalidDeeds,
    PySem.W.mg_of X G x_C_InvalidDeeds,
    C_NothingToUndo,
    PySem.W.mg_of X G x_C_NothingToUndo,
    C_Busy,
    PySem.W.mg_of X G x_C_Busy,
    C_UnknownName,
    PySem.W.mg_of X G x_C_UnknownName,
    C_TooMany,
    PySem.W.mg_of X G x_C_TooMany,
    ⟨⟨nm_InvalidRule, q_InvalidRule, N_InvalidRule, bs_InvalidRule, bm_InvalidRule, sn_InvalidRule, sub_InvalidRule, ab_InvalidRule, col_InvalidRule, dd_InvalidRule, e0_InvalidRule, e1_InvalidRule, e2_InvalidRule, e3_InvalidRule, e5_InvalidRule, x_L_InvalidRule, x_me_R_InvalidRule⟩, x_xs_InvalidRule, x_xe_InvalidRule, x_xt_InvalidRule, x_xk_InvalidRule⟩,
    x_na_InvalidRule_value,
    f_InvalidRule___init__,
    _,
    (fun_mk (st := s_InvalidRule___init__) x_l_InvalidRule___init__ x_c_InvalidRule___init__ x_k_InvalidRule___init__),
    (fun_mk (st := s_InvalidRule___init__) x_l_InvalidRule___init__ x_c_InvalidRule___init__ x_k_InvalidRule___init__).binds (ps := p_InvalidRule___init__) fun _ _ _ _ _ _ us hl => match us, hl with | [_, _], _ => rfl,
    x_a_InvalidRule___init__,
    x_j_InvalidRule___init__,
    ⟨⟨nm_InvalidWidth, q_InvalidWidth, N_InvalidWidth, bs_InvalidWidth, bm_InvalidWidth, sn_InvalidWidth, sub_InvalidWidth, ab_InvalidWidth, col_InvalidWidth, dd_InvalidWidth, e0_InvalidWidth, e1_InvalidWidth, e2_InvalidWidth, e3_InvalidWidth, e5_InvalidWidth, x_L_InvalidWidth, x_me_R_InvalidWidth⟩, x_xs_InvalidWidth, x_xe_InvalidWidth, x_xt_InvalidWidth, x_xk_InvalidWidth⟩,
    x_na_InvalidWidth_value,
    f_InvalidWidth___init__,
    _,
    (fun_mk (st := s_InvalidWidth___init__) x_l_InvalidWidth___init__ x_c_InvalidWidth___init__ x_k_InvalidWidth___init__),
    (fun_mk (st := s_InvalidWidth___init__) x_l_InvalidWidth___init__ x_c_InvalidWidth___init__ x_k_InvalidWidth___init__).binds (ps := p_InvalidWidth___init__) fun _ _ _ _ _ _ us hl => match us, hl with | [_, _], _ => rfl,
    x_a_InvalidWidth___init__,
    x_j_InvalidWidth___init__,
    ⟨⟨nm_InvalidPlace, q_InvalidPlace, N_InvalidPlace, bs_InvalidPlace, bm_InvalidPlace, sn_InvalidPlace, sub_InvalidPlace, ab_InvalidPlace, col_InvalidPlace, dd_InvalidPlace, e0_InvalidPlace, e1_InvalidPlace, e2_InvalidPlace, e3_InvalidPlace, e5_InvalidPlace, x_L_InvalidPlace, x_me_R_InvalidPlace⟩, x_xs_InvalidPlace, x_xe_InvalidPlace, x_xt_InvalidPlace, x_xk_InvalidPlace⟩,
    x_na_InvalidPlace_value,
    f_InvalidPlace___init__,
    _,
    (fun_mk (st := s_InvalidPlace___init__) x_l_InvalidPlace___init__ x_c_InvalidPlace___init__ x_k_InvalidPlace___init__),
    (fun_mk (st := s_InvalidPlace___init__) x_l_InvalidPlace___init__ x_c_InvalidPlace___init__ x_k_InvalidPlace___init__).binds (ps := p_InvalidPlace___init__) fun _ _ _ _ _ _ us hl => match us, hl with | [_, _], _ => rfl,
    x_a_InvalidPlace___init__,
    x_j_InvalidPlace___init__,
    ⟨⟨nm_NotANamer, q_NotANamer, N_NotANamer, bs_NotANamer, bm_NotANamer, sn_NotANamer, sub_NotANamer, ab_NotANamer, col_NotANamer, dd_NotANamer, e0_NotANamer, e1_NotANamer, e2_NotANamer, e3_NotANamer, e5_NotANamer, x_L_NotANamer, x_me_R_NotANamer⟩, x_xs_NotANamer, x_xe_NotANamer, x_xt_NotANamer, x_xk_NotANamer⟩,
    x_na_NotANamer_value,
    f_NotANamer___init__,
    _,
    (fun_mk (st := s_NotANamer___init__) x_l_NotANamer___init__ x_c_NotANamer___init__ x_k_NotANamer___init__),
    (fun_mk (st := s_NotANamer___init__) x_l_NotANamer___init__ x_c_NotANamer___init__ x_k_NotANamer___init__).binds (ps := p_NotANamer___init__) fun _ _ _ _ _ _ us hl => match us, hl with | [_, _], _ => rfl,
    x_a_NotANamer___init__,
    x_j_NotANamer___init__,
    ⟨⟨nm_InvalidTexts, q_InvalidTexts, N_InvalidTexts, bs_InvalidTexts, bm_InvalidTexts, sn_InvalidTexts, sub_InvalidTexts, ab_InvalidTexts, col_InvalidTexts, dd_InvalidTexts, e0_InvalidTexts, e1_InvalidTexts, e2_InvalidTexts, e3_InvalidTexts, e5_InvalidTexts, x_L_InvalidTexts, x_me_R_InvalidTexts⟩, x_xs_InvalidTexts, x_xe_InvalidTexts, x_xt_InvalidTexts, x_xk_InvalidTexts⟩,
    x_na_InvalidTexts_index,
    f_InvalidTexts___init__,
    _,
    (fun_mk (st := s_InvalidTexts___init__) x_l_InvalidTexts___init__ x_c_InvalidTexts___init__ x_k_InvalidTexts___init__),
    (fun_mk (st := s_InvalidTexts___init__) x_l_InvalidTexts___init__ x_c_InvalidTexts___init__ x_k_InvalidTexts___init__).binds (ps := p_InvalidTexts___init__) fun _ _ _ _ _ _ us hl => match us, hl with | [_, _], _ => rfl,
    x_a_InvalidTexts___init__,
    x_j_InvalidTexts___init__,
    ⟨x_ga_InvalidRule, x_gg_InvalidRule, x_xe_InvalidRule, x_xd_InvalidRule⟩,
    ⟨x_ga_InvalidRule, x_gg_InvalidRule, x_xe_InvalidRule, x_xd_InvalidRule, x_xa_InvalidRule, x_xn_InvalidRule, x_xq_InvalidRule, x_xm_InvalidRule⟩,
    x_me_kr_InvalidRule_0,
    x_me_kr_InvalidRule_1,
    x_me_kr_InvalidRule_2,
    x_me_kr_InvalidRule_3,
    x_me_kr_InvalidRule_4,
    x_me_kr_InvalidRule_5,
    x_me_kr_InvalidRule_6,
    x_me_kr_InvalidRule_7,
    x_me_kr_InvalidRule_8,
    x_me_kr_InvalidRule_9,
    x_me_kr_InvalidRule_10,
    x_me_kr_InvalidRule_11,
    x_me_kr_InvalidRule_12,
    x_me_kr_InvalidRule_13,
    x_me_kr_InvalidRule_14,
    x_me_kr_InvalidRule_15,
    x_me_kr_InvalidRule_16,
    x_me_kr_InvalidRule_17,
    x_me_kr_InvalidRule_18,
    x_me_kr_InvalidRule_19,
    x_me_kr_InvalidRule_20,
    x_me_kr_InvalidRule_21,
    x_me_kr_InvalidRule_22,
    x_me_kr_InvalidRule_23,
    ⟨x_ga_InvalidWidth, x_gg_InvalidWidth, x_xe_InvalidWidth, x_xd_InvalidWidth⟩,
    ⟨x_ga_InvalidWidth, x_gg_InvalidWidth, x_xe_InvalidWidth, x_xd_InvalidWidth, x_xa_InvalidWidth, x_xn_InvalidWidth, x_xq_InvalidWidth, x_xm_InvalidWidth⟩,
    x_me_kr_InvalidWidth_0,
    x_me_kr_InvalidWidth_1,
    x_me_kr_InvalidWidth_2,
    x_me_kr_InvalidWidth_3,
    x_me_kr_InvalidWidth_4,
    x_me_kr_InvalidWidth_5,
    x_me_kr_InvalidWidth_6,
    x_me_kr_InvalidWidth_7,
    x_me_kr_InvalidWidth_8,
    x_me_kr_InvalidWidth_9,
    x_me_kr_InvalidWidth_10,
    x_me_kr_InvalidWidth_11,
    x_me_kr_InvalidWidth_12,
    x_me_kr_InvalidWidth_13,
    x_me_kr_InvalidWidth_14,
    x_me_kr_InvalidWidth_15,
    x_me_kr_InvalidWidth_16,
    x_me_kr_InvalidWidth_17,
    x_me_kr_InvalidWidth_18,
    x_me_kr_InvalidWidth_19,
    x_me_kr_InvalidWidth_20,
    x_me_kr_InvalidWidth_21,
    x_me_kr_InvalidWidth_22,
    x_me_kr_InvalidWidth_23,
    ⟨x_ga_NotANamer, x_gg_NotANamer, x_xe_NotANamer, x_xd_NotANamer⟩,
    ⟨x_ga_NotANamer, x_gg_NotANamer, x_xe_NotANamer, x_xd_NotANamer, x_xa_NotANamer, x_xn_NotANamer, x_xq_NotANamer, x_xm_NotANamer⟩,
    x_me_kr_NotANamer_0,
    x_me_kr_NotANamer_1,
    x_me_kr_NotANamer_2,
    x_me_kr_NotANamer_3,
    x_me_kr_NotANamer_4,
    x_me_kr_NotANamer_5,
    x_me_kr_NotANamer_6,
    x_me_kr_NotANamer_7,
    x_me_kr_NotANamer_8,
    x_me_kr_NotANamer_9,
    x_me_kr_NotANamer_10,
    x_me_kr_NotANamer_11,
    x_me_kr_NotANamer_12,
    x_me_kr_NotANamer_13,
    x_me_kr_NotANamer_14,
    x_me_kr_NotANamer_15,
    x_me_kr_NotANamer_16,
    x_me_kr_NotANamer_17,
    x_me_kr_NotANamer_18,
    x_me_kr_NotANamer_19,
    x_me_kr_NotANamer_20,
    x_me_kr_NotANamer_21,
    x_me_kr_NotANamer_22,
    x_me_kr_NotANamer_23,
    ⟨x_ga_InvalidTexts, x_gg_InvalidTexts, x_xe_InvalidTexts, x_xd_InvalidTexts⟩,
    ⟨x_ga_InvalidTexts, x_gg_InvalidTexts, x_xe_InvalidTexts, x_xd_InvalidTexts, x_xa_InvalidTexts, x_xn_InvalidTexts, x_xq_InvalidTexts, x_xm_InvalidTexts⟩,
    x_me_kr_InvalidTexts_0,
    x_me_kr_InvalidTexts_1,
    x_me_kr_InvalidTexts_2,
    x_me_kr_InvalidTexts_3,
    x_me_kr_InvalidTexts_4,
    x_me_kr_InvalidTexts_5,
    x_me_kr_InvalidTexts_6,
    x_me_kr_InvalidTexts_7,
    x_me_kr_InvalidTexts_8,
    x_me_kr_InvalidTexts_9,
    x_me_kr_InvalidTexts_10,
    x_me_kr_InvalidTexts_11,
    x_me_kr_InvalidTexts_12,
    x_me_kr_InvalidTexts_13,
    x_me_kr_InvalidTexts_14,
    x_me_kr_InvalidTexts_15,
    x_me_kr_InvalidTexts_16,
    x_me_kr_InvalidTexts_17,
    x_me_kr_InvalidTexts_18,
    x_me_kr_InvalidTexts_19,
    x_me_kr_InvalidTexts_20,
    x_me_kr_InvalidTexts_21,
    x_me_kr_InvalidTexts_22,
    x_me_kr_InvalidTexts_23,
    ⟨x_ga_InvalidPlace, x_gg_InvalidPlace, x_xe_InvalidPlace, x_xd_InvalidPlace⟩,
    ⟨x_ga_InvalidPlace, x_gg_InvalidPlace, x_xe_InvalidPlace, x_xd_InvalidPlace, x_xa_InvalidPlace, x_xn_InvalidPlace, x_xq_InvalidPlace, x_xm_InvalidPlace⟩,
    x_me_kr_InvalidPlace_0,
    x_me_kr_InvalidPlace_1,
    x_me_kr_InvalidPlace_2,
    x_me_kr_InvalidPlace_3,
    x_me_kr_InvalidPlace_4,
    x_me_kr_InvalidPlace_5,
    x_me_kr_InvalidPlace_6,
    x_me_kr_InvalidPlace_7,
    x_me_kr_InvalidPlace_8,
    x_me_kr_InvalidPlace_9,
    x_me_kr_InvalidPlace_10,
    x_me_kr_InvalidPlace_11,
    x_me_kr_InvalidPlace_12,
    x_me_kr_InvalidPlace_13,
    x_me_kr_InvalidPlace_14,
    x_me_kr_InvalidPlace_15,
    x_me_kr_InvalidPlace_16,
    x_me_kr_InvalidPlace_17,
    x_me_kr_InvalidPlace_18,
    x_me_kr_InvalidPlace_19,
    x_me_kr_InvalidPlace_20,
    x_me_kr_InvalidPlace_21,
    x_me_kr_InvalidPlace_22,
    x_me_kr_InvalidPlace_23,
    x_me_eh_InputError_InputError,
    x_me_eh_StateError_InputError,
    x_me_eh_SizeError_InputError,
    x_me_eh_InvalidNumber_InputError,
    x_me_eh_InvalidMark_InputError,
    x_me_eh_InvalidText_InputError,
    x_me_eh_InvalidLength_InputError,
    x_me_eh_InvalidRule_InputError,
    x_me_eh_InvalidWidth_InputError,
    x_me_eh_InvalidPlace_InputError,
    x_me_eh_InvalidLine_InputError,
    x_me_eh_NotANamer_InputError,
    x_me_eh_NotAShelf_InputError,
    x_me_eh_InvalidRow_InputError,
    x_me_eh_InvalidViews_InputError,
    x_me_eh_InvalidTexts_InputError,
    x_me_eh_InvalidDeeds_InputError,
    x_me_eh_NothingToUndo_InputError,
    x_me_eh_Busy_InputError,
    x_me_eh_UnknownName_InputError,
    x_me_eh_TooMany_InputError,
    x_me_eh_InputError_SizeError,
    x_me_eh_StateError_SizeError,
    x_me_eh_SizeError_SizeError,
    x_me_eh_InvalidNumber_SizeError,
    x_me_eh_InvalidMark_SizeError,
    x_me_eh_InvalidText_SizeError,
    x_me_eh_InvalidLength_SizeError,
    x_me_eh_InvalidRule_SizeError,
    x_me_eh_InvalidWidth_SizeError,
    x_me_eh_InvalidPlace_SizeError,
    x_me_eh_InvalidLine_SizeError,
    x_me_eh_NotANamer_SizeError,
    x_me_eh_NotAShelf_SizeError,
    x_me_eh_InvalidRow_SizeError,
    x_me_eh_InvalidViews_SizeError,
    x_me_eh_InvalidTexts_SizeError,
    x_me_eh_InvalidDeeds_SizeError,
    x_me_eh_NothingToUndo_SizeError,
    x_me_eh_Busy_SizeError,
    x_me_eh_UnknownName_SizeError,
    x_me_eh_TooMany_SizeError,
    x_me_eh_InputError_StateError,
    x_me_eh_StateError_StateError,
    x_me_eh_SizeError_StateError,
    x_me_eh_InvalidNumber_StateError,
    x_me_eh_InvalidMark_StateError,
    x_me_eh_InvalidText_StateError,
    x_me_eh_InvalidLength_StateError,
    x_me_eh_InvalidRule_StateError,
    x_me_eh_InvalidWidth_StateError,
    x_me_eh_InvalidPlace_StateError,
    x_me_eh_InvalidLine_StateError,
    x_me_eh_NotANamer_StateError,
    x_me_eh_NotAShelf_StateError,
    x_me_eh_InvalidRow_StateError,
    x_me_eh_InvalidViews_StateError,
    x_me_eh_InvalidTexts_StateError,
    x_me_eh_InvalidDeeds_StateError,
    x_me_eh_NothingToUndo_StateError,
    x_me_eh_Busy_StateError,
    x_me_eh_UnknownName_StateError,
    x_me_eh_TooMany_StateError,
    C_Namer,
    PySem.W.mg_of X G x_C_Namer,
    ⟨x_pg_Namer, x_hd_Namer, x_po_Namer, x_sa_Namer⟩,
    ⟨⟨x_pg_Namer, x_hd_Namer, x_po_Namer, x_sa_Namer⟩, x_ha_Namer, x_hn_Namer, x_ht_Namer, x_hm_Namer, x_me_Namer⟩,
    x_na_Namer_rule,
    x_na_Namer_width,
    x_ne_Namer,
    x_hm_Namer,
    ⟨x_non_Namer, x_nos_Namer, x_not_Namer⟩,
    ⟨⟨x_non_Namer, x_nos_Namer, x_not_Namer⟩, x_noi_Namer, x_nol_Namer⟩,
    x_me_kn_Namer,
    x_me_ks_Namer,
    x_me_ktt_Namer,
    (V.kt_of x_me_kt_Namer_NoneType x_me_kt_Namer_bool x_me_kt_Namer_int x_me_kt_Namer_str x_me_kt_Namer_list x_me_kt_Namer_tuple x_me_kt_Namer_dict),
    (V.kx_of x_me_kx_Namer_int x_me_kx_Namer_bool x_me_kx_Namer_str x_me_kx_Namer_list x_me_kx_Namer_tuple x_me_kx_Namer_dict),
    f_Namer___init__,
    _,
    (fun_mk (st := s_Namer___init__) x_l_Namer___init__ x_c_Namer___init__ x_k_Namer___init__),
    (fun_mk (st := s_Namer___init__) x_l_Namer___init__ x_c_Namer___init__ x_k_Namer___init__).binds (ps := p_Namer___init__) fun _ _ _ _ _ _ us hl => match us, hl with | [_, _, _], _ => rfl,
    ⟨x_mk_Namer, x_a_Namer___init__, x_i_Namer___init__, x_kc_Namer⟩,
    f_Namer_base_of,
    _,
    (fun_mk (st := s_Namer_base_of) x_l_Namer_base_of x_c_Namer_base_of x_k_Namer_base_of),
    (fun_mk (st := s_Namer_base_of) x_l_Namer_base_of x_c_Namer_base_of x_k_Namer_base_of).binds (ps := p_Namer_base_of) fun _ _ _ _ _ _ us hl => match us, hl with | [_, _], _ => rfl,
    ⟨x_a_Namer_base_of, x_i_Namer_base_of, x_k_Namer_base_of⟩,
    f_Namer_numbered,
    _,
    (fun_mk (st := s_Namer_numbered) x_l_Namer_numbered x_c_Namer_numbered x_k_Namer_numbered),
    (fun_mk (st := s_Namer_numbered) x_l_Namer_numbered x_c_Namer_numbered x_k_Namer_numbered).binds (ps := p_Namer_numbered) fun _ _ _ _ _ _ us hl => match us, hl with | [_, _, _], _ => rfl,
    ⟨x_a_Namer_numbered, x_i_Namer_numbered, x_k_Namer_numbered⟩,
    f_Namer_name_for,
    _,
    (fun_mk (st := s_Namer_name_for) x_l_Namer_name_for x_c_Namer_name_for x_k_Namer_name_for),
    (fun_mk (st := s_Namer_name_for) x_l_Namer_name_for x_c_Namer_name_for x_k_Namer_name_for).binds (ps := p_Namer_name_for) fun _ _ _ _ _ _ us hl => match us, hl with | [_, _, _], _ => rfl,
    ⟨x_a_Namer_name_for, x_i_Namer_name_for, x_k_Namer_name_for⟩,
    f_Namer___eq__,
    _,
    (fun_mk (st := s_Namer___eq__) x_l_Namer___eq__ x_c_Namer___eq__ x_k_Namer___eq__),
    (fun_mk (st := s_Namer___eq__) x_l_Namer___eq__ x_c_Namer___eq__ x_k_Namer___eq__).binds (ps := p_Namer___eq__) fun _ _ _ _ _ _ us hl => match us, hl with | [_, _], _ => rfl,
    ⟨x_a_Namer___eq__, x_i_Namer___eq__, x_k_Namer___eq__⟩,
    f_Namer___repr__,
    _,
    (fun_mk (st := s_Namer___repr__) x_l_Namer___repr__ x_c_Namer___repr__ x_k_Namer___repr__),
    (fun_mk (st := s_Namer___repr__) x_l_Namer___repr__ x_c_Namer___repr__ x_k_Namer___repr__).binds (ps := p_Namer___repr__) fun _ _ _ _ _ _ us hl => match us, hl with | [_], _ => rfl,
    ⟨x_a_Namer___repr__, x_i_Namer___repr__, x_k_Namer___repr__⟩,
    f_is_integer,
    _,
    (fun_mk (st := s_is_integer) x_l_is_integer x_c_is_integer x_k_is_integer),
    (fun_mk (st := s_is_integer) x_l_is_integer x_c_is_integer x_k_is_integer).binds (ps := p_is_integer) fun _ _ _ _ _ _ us hl => match us, hl with | [_], _ => rfl,
    PySem.W.mg_of X G x_a_is_integer,
    f_is_text,
    _,
    (fun_mk (st := s_is_text) x_l_is_text x_c_is_text x_k_is_text),
    (fun_mk (st := s_is_text) x_l_is_text x_c_is_text x_k_is_text).binds (ps := p_is_text) fun _ _ _ _ _ _ us hl => match us, hl with | [_, _], _ => rfl,
    PySem.W.mg_of X G x_a_is_text,
    f_check_namer,
    _,
    (fun_mk (st := s_check_namer) x_l_check_namer x_c_check_namer x_k_check_namer),
    (fun_mk (st := s_check_namer) x_l_check_namer x_c_check_namer x_k_check_namer).binds (ps := p_check_namer) fun _ _ _ _ _ _ us hl => match us, hl with | [_], _ => rfl,
    PySem.W.mg_of X G x_a_check_namer,
    f_check_texts,
    _,
    (fun_mk (st := s_check_texts) x_l_check_texts x_c_check_texts x_k_check_texts),
    (fun_mk (st := s_check_texts) x_l_check_texts x_c_check_texts x_k_check_texts).binds (ps := p_check_texts) fun _ _ _ _ _ _ us hl => match us, hl with | [_], _ => rfl,
    PySem.W.mg_of X G x_a_check_texts,
    f_names_of,
    _,
    (fun_mk (st := s_names_of) x_l_names_of x_c_names_of x_k_names_of),
    (fun_mk (st := s_names_of) x_l_names_of x_c_names_of x_k_names_of).binds (ps := p_names_of) fun _ _ _ _ _ _ us hl => match us, hl with | [_, _], _ => rfl,
    PySem.W.mg_of X G x_a_names_of,
    f_orders_of,
    _,
    (fun_mk (st := s_orders_of) x_l_orders_of x_c_orders_of x_k_orders_of),
    (fun_mk (st := s_orders_of) x_l_orders_of x_c_orders_of x_k_orders_of).binds (ps := p_orders_of) fun _ _ _ _ _ _ us hl => match us, hl with | [_], _ => rfl,
    PySem.W.mg_of X G x_a_orders_of,
    f_names,
    _,
    (fun_mk (st := s_names) x_l_names x_c_names x_k_names),
    (fun_mk (st := s_names) x_l_names x_c_names x_k_names).binds (ps := p_names) fun _ _ _ _ _ _ us hl => match us, hl with | [_, _], _ => rfl,
    PySem.W.mg_of X G x_a_names,
    f_meeting,
    _,
    (fun_mk (st := s_meeting) x_l_meeting x_c_meeting x_k_meeting),
    (fun_mk (st := s_meeting) x_l_meeting x_c_meeting x_k_meeting).binds (ps := p_meeting) fun _ _ _ _ _ _ us hl => match us, hl with | [_, _], _ => rfl,
    PySem.W.mg_of X G x_a_meeting,
    f_possible_names,
    _,
    (fun_mk (st := s_possible_names) x_l_possible_names x_c_possible_names x_k_possible_names),
    (fun_mk (st := s_possible_names) x_l_possible_names x_c_possible_names x_k_possible_names).binds (ps := p_possible_names) fun _ _ _ _ _ _ us hl => match us, hl with | [_, _, _], _ => rfl,
    PySem.W.mg_of X G x_a_possible_names,
    f__law_source,
    _,
    (fun_mk (st := s__law_source) x_l__law_source x_c__law_source x_k__law_source),
    (fun_mk (st := s__law_source) x_l__law_source x_c__law_source x_k__law_source).binds (ps := p__law_source) fun _ _ _ _ _ _ us hl => match us, hl with | [_, _], _ => rfl,
    PySem.W.mg_of X G x_a__law_source,
    f__law_draw,
    _,
    (fun_mk (st := s__law_draw) x_l__law_draw x_c__law_draw x_k__law_draw),
    (fun_mk (st := s__law_draw) x_l__law_draw x_c__law_draw x_k__law_draw).binds (ps := p__law_draw) fun _ _ _ _ _ _ us hl => match us, hl with | [_, _], _ => rfl,
    PySem.W.mg_of X G x_a__law_draw,
    f__law_one,
    _,
    (fun_mk (st := s__law_one) x_l__law_one x_c__law_one x_k__law_one),
    (fun_mk (st := s__law_one) x_l__law_one x_c__law_one x_k__law_one).binds (ps := p__law_one) fun _ _ _ _ _ _ us hl => match us, hl with | [_, _], _ => rfl,
    PySem.W.mg_of X G x_a__law_one,
    f__law_stem,
    _,
    (fun_mk (st := s__law_stem) x_l__law_stem x_c__law_stem x_k__law_stem),
    (fun_mk (st := s__law_stem) x_l__law_stem x_c__law_stem x_k__law_stem).binds (ps := p__law_stem) fun _ _ _ _ _ _ us hl => match us, hl with | [_, _], _ => rfl,
    PySem.W.mg_of X G x_a__law_stem,
    f__law_refusal,
    _,
    (fun_mk (st := s__law_refusal) x_l__law_refusal x_c__law_refusal x_k__law_refusal),
    (fun_mk (st := s__law_refusal) x_l__law_refusal x_c__law_refusal x_k__law_refusal).binds (ps := p__law_refusal) fun _ _ _ _ _ _ us hl => match us, hl with | [_], _ => rfl,
    PySem.W.mg_of X G x_a__law_refusal,
    f__law_tried,
    _,
    (fun_mk (st := s__law_tried) x_l__law_tried x_c__law_tried x_k__law_tried),
    (fun_mk (st := s__law_tried) x_l__law_tried x_c__law_tried x_k__law_tried).binds (ps := p__law_tried) fun _ _ _ _ _ _ us hl => match us, hl with | [_], _ => rfl,
    PySem.W.mg_of X G x_a__law_tried,
    f__law_is,
    _,
    (fun_mk (st := s__law_is) x_l__law_is x_c__law_is x_k__law_is),
    (fun_mk (st := s__law_is) x_l__law_is x_c__law_is x_k__law_is).binds (ps := p__law_is) fun _ _ _ _ _ _ us hl => match us, hl with | [_, _], _ => rfl,
    PySem.W.mg_of X G x_a__law_is,
    f__law_is_text,
    _,
    (fun_mk (st := s__law_is_text) x_l__law_is_text x_c__law_is_text x_k__law_is_text),
    (fun_mk (st := s__law_is_text) x_l__law_is_text x_c__law_is_text x_k__law_is_text).binds (ps := p__law_is_text) fun _ _ _ _ _ _ us hl => match us, hl with | [_], _ => rfl,
    PySem.W.mg_of X G x_a__law_is_text,
    f__law_odd,
    _,
    (fun_mk (st := s__law_odd) x_l__law_odd x_c__law_odd x_k__law_odd),
    (fun_mk (st := s__law_odd) x_l__law_odd x_c__law_odd x_k__law_odd).binds (ps := p__law_odd) fun _ _ _ _ _ _ us hl => match us, hl with | [_], _ => rfl,
    PySem.W.mg_of X G x_a__law_odd,
    f__law_line,
    _,
    (fun_mk (st := s__law_line) x_l__law_line x_c__law_line x_k__law_line),
    (fun_mk (st := s__law_line) x_l__law_line x_c__law_line x_k__law_line).binds (ps := p__law_line) fun _ _ _ _ _ _ us hl => match us, hl with | [_], _ => rfl,
    PySem.W.mg_of X G x_a__law_line,
    f__law_due,
    _,
    (fun_mk (st := s__law_due) x_l__law_due x_c__law_due x_k__law_due),
    (fun_mk (st := s__law_due) x_l__law_due x_c__law_due x_k__law_due).binds (ps := p__law_due) fun _ _ _ _ _ _ us hl => match us, hl with | [_], _ => rfl,
    PySem.W.mg_of X G x_a__law_due,
    f__law_fits,
    _,
    (fun_mk (st := s__law_fits) x_l__law_fits x_c__law_fits x_k__law_fits),
    (fun_mk (st := s__law_fits) x_l__law_fits x_c__law_fits x_k__law_fits).binds (ps := p__law_fits) fun _ _ _ _ _ _ us hl => match us, hl with | [_, _], _ => rfl,
    PySem.W.mg_of X G x_a__law_fits,
    f__law_right,
    _,
    (fun_mk (st := s__law_right) x_l__law_right x_c__law_right x_k__law_right),
    (fun_mk (st := s__law_right) x_l__law_right x_c__law_right x_k__law_right).binds (ps := p__law_right) fun _ _ _ _ _ _ us hl => match us, hl with | [_], _ => rfl,
    PySem.W.mg_of X G x_a__law_right,
    f_law,
    _,
    (fun_mk (st := s_law) x_l_law x_c_law x_k_law),
    (fun_mk (st := s_law) x_l_law x_c_law x_k_law).binds (ps := p_law) fun _ _ _ _ _ _ us hl => match us, hl with | [_], _ => rfl,
    PySem.W.mg_of X G x_a_law,
    cc__law_right,
    PP__law_right,
    x_me_cd__law_right,
    x_me_hd__law_right,
    x_me_np__law_right,
    x_me_ps__law_right⟩, rfl, x_tab__law_right⟩
/-- the tables of the code objects, in the written part -/
structure TBs {K : PySem.W.Frag} {mg : Str → Option Value} (T : Tx K mg) (base : Heap) : Prop where
  t__law_right : LamX.TabB base mg T.cc__law_right T.PP__law_right
/-- .. in the store, with the dict of the modules -/
structure TMs {K : PySem.W.Frag} {mg : Str → Option Value} (T : Tx K mg) (M : Mem) : Prop where
  t__law_right : M T.PP__law_right = some (.tab (lamN "_law_right"))
  sys : M sysModules = some .sys
theorem TMs.set {K : PySem.W.Frag} {mg : Str → Option Value} {T : Tx K mg} {M : Mem} {a : Addr} (t : TMs T M) (h : M a = none) (o : MO) : TMs T (mset M a o) :=
  ⟨(mset_ne (Ne.symm (V.mneN h t.t__law_right))).trans t.t__law_right, (mset_ne (Ne.symm (V.mneN h t.sys))).trans t.sys⟩
def Ts {K : PySem.W.Frag} {mg : Str → Option Value} (T : Tx K mg) : List (Addr × Str) := [(T.PP__law_right, lamN "_law_right")]
def Cs {K : PySem.W.Frag} {mg : Str → Option Value} (T : Tx K mg) : List (Addr × Addr) := [(T.cc__law_right, T.PP__law_right)]
theorem tms_M0 {K : PySem.W.Frag} {mg : Str → Option Value} (T : Tx K mg) : TMs T (V.M0 (Ts T)) := by
  refine ⟨?_, if_pos rfl⟩
  · refine (if_neg (V.ne_of_beqF T.ps__law_right)).trans ?_
    simp only [Ts, List.lookup, beq_self_eq_true, Option.map_some]
theorem tms_hT {K : PySem.W.Frag} {mg : Str → Option Value} (T : Tx K mg) : ∀ b ∈ (Ts T).map (·.1), b ∈ (Cs T).map (·.2) := fun b hb => hb
theorem tbs_of {K : PySem.W.Frag} {mg : Str → Option Value} (T : Tx K mg) {base : Heap} (h : ∀ p ∈ Cs T, LamX.TabB base mg p.1 p.2) : TBs T base := ⟨h (T.cc__law_right, T.PP__law_right) (by simp [Cs])⟩
end G
local macro_rules | `(tactic| walk_at "go") => `(tactic| simp (config := { failIfUnchanged := false, maxSteps := 2000000 }) only [U.e_var, U.e_c, U.e_op, U.e_un, U.e_nil, U.e_cons, U.e_cb, U.e_call, U.e_tup, U.e_lst, U.e_if, U.e_andV, U.e_orV, U.e_notV, U.e_chain, U.e_test, U.e_B, U.e_and, U.e_or, U.e_not, U.e_asg, U.e_name, U.e_seq, U.e_next, U.e_ret, U.e_ifS, U.e_drop, U.e_part, U.e_noPart, U.e_sl, U.e_I0, U.e_I, U.e_exbl, U.e_exint, U.e_exstr, U.e_exsome, U.e_pair, U.e_expair, U.e_m1, U.e_m0, U.e_bm, U.e_bm0, U.e_fld, U.e_sfld, U.e_then, U.e_star, U.e_yes, U.e_gcons, U.e_gnil, U.e_gtup, U.e_gsub, U.e_make, U.e_makeK, U.e_callN, U.e_meth, U.e_kTup, U.e_lcL, U.e_lcT, U.e_lcS, U.e_lcR, U.e_lcR2, U.e_forL, U.e_forT, U.e_forR, U.e_forR2, U.e_forE, U.e_lstRg, L2.wipe, eq_self,
  U.rAddU, U.rEqU, U.rNeU, U.rLtU, U.rInU, U.rNinU, U.rIxU, U.rSlU, U.rLenU, U.rInt1, U.rI1, U.rI2, L2.rU, U.rListU, L2.scal,
  L2.start, List.map_cons, List.map_nil, List.length_cons, List.length_nil, List.cons_append, List.nil_append, List.append_nil, List.getElem?_cons_zero, List.getElem?_cons_succ, List.set_cons_zero, List.set_cons_succ, Nat.reduceAdd, Nat.reduceSub, List.reduceReplicate, Nat.zero_add,
  if_true, if_false, Bool.false_eq_true, decide_eq_true_eq, Bool.not_eq_true', decide_eq_false_iff_not, Bool.not_true, Bool.not_false, L2.V.int.injEq, L2.V.str.injEq, L2.V.bl.injEq, L2.V.ref.injEq, exists_eq_left', exists_and_left, true_and, and_true, not_true_eq_false, not_false_eq_true, reduceCtorEq])
local macro_rules | `(tactic| walk_at "lz") => `(tactic| simp (config := { failIfUnchanged := false, maxSteps := 2000000 }) only [U.e_var, U.e_c, U.e_op, U.e_un, U.e_nil, U.e_cons, U.e_cb, U.e_call, U.e_tup, U.e_lst, U.e_if, U.e_andV, U.e_orV, U.e_notV, U.e_chain, U.e_test, U.e_B, U.e_and, U.e_or, U.e_not, U.e_asg, U.e_name, U.e_seq, U.e_next, U.e_ret, U.e_ifS, U.e_drop, U.e_part, U.e_noPart, U.e_sl, U.e_I0, U.e_I, U.e_exbl, U.e_exint, U.e_exstr, U.e_exsome, U.e_pair, U.e_expair, U.e_m1, U.e_m0, U.e_bm, U.e_bm0, U.e_fld, U.e_sfld, U.e_then, U.e_star, U.e_yes, U.e_gcons, U.e_gnil, U.e_gtup, U.e_gsub, U.e_make, U.e_makeK, U.e_callN, U.e_meth, U.e_kTup, U.e_lcL, U.e_lcT, U.e_lcS, U.e_lcR, U.e_lcR2, U.e_forL, U.e_forT, U.e_forR, U.e_forR2, U.e_forE, U.e_lstRg, L2.wipe, eq_self,
  U.rEqU, U.rNeU, U.rLtU, U.rInU, U.rNinU, U.rIxU, U.rSlU, U.rLenU, U.rInt1, U.rI1, U.rI2, L2.rU, U.rListU, L2.scal,
  L2.start, List.map_cons, List.map_nil, List.length_cons, List.length_nil, List.cons_append, List.nil_append, List.append_nil, List.getElem?_cons_zero, List.getElem?_cons_succ, List.set_cons_zero, List.set_cons_succ, Nat.reduceAdd, Nat.reduceSub, List.reduceReplicate, Nat.zero_add,
  if_true, if_false, Bool.false_eq_true, decide_eq_true_eq, Bool.not_eq_true', decide_eq_false_iff_not, Bool.not_true, Bool.not_false, L2.V.int.injEq, L2.V.str.injEq, L2.V.bl.injEq, L2.V.ref.injEq, exists_eq_left', exists_and_left, true_and, and_true, not_true_eq_false, not_false_eq_true, reduceCtorEq])
local macro_rules | `(tactic| walk_at "lx") => `(tactic| simp (config := { failIfUnchanged := false, maxSteps := 2000000 }) only [U.e_var, U.e_c, U.e_op, U.e_un, U.e_nil, U.e_cons, U.e_cb, U.e_call, U.e_tup, U.e_lst, U.e_if, U.e_andV, U.e_orV, U.e_notV, U.e_chain, U.e_test, U.e_B, U.e_and, U.e_or, U.e_not, U.e_asg, U.e_name, U.e_seq, U.e_next, U.e_ret, U.e_ifS, U.e_drop, U.e_part, U.e_noPart, U.e_sl, U.e_I0, U.e_I, U.e_exbl, U.e_exint, U.e_exstr, U.e_exsome, U.e_pair, U.e_expair, U.e_m1, U.e_m0, U.e_bm, U.e_bm0, U.e_fld, U.e_sfld, U.e_then, U.e_star, U.e_yes, U.e_gcons, U.e_gnil, U.e_gtup, U.e_gsub, U.e_make, U.e_makeK, U.e_callN, U.e_meth, U.e_kTup, U.e_lcL, U.e_lcT, U.e_lcS, U.e_lcR, U.e_lcR2, U.e_forL, U.e_forT, U.e_forR, U.e_forR2, U.e_forE, U.e_lstRg, L2.wipe, eq_self,
  U.rLtU, U.rInU, U.rNinU, U.rSlU, U.rLenU, U.rInt1, U.rI1, U.rI2, L2.rU, U.rListU, L2.scal,
  L2.start, List.map_cons, List.map_nil, List.length_cons, List.length_nil, List.cons_append, List.nil_append, List.append_nil, List.getElem?_cons_zero, List.getElem?_cons_succ, List.set_cons_zero, List.set_cons_succ, Nat.reduceAdd, Nat.reduceSub, List.reduceReplicate, Nat.zero_add,
  if_true, if_false, Bool.false_eq_true, decide_eq_true_eq, Bool.not_eq_true', decide_eq_false_iff_not, Bool.not_true, Bool.not_false, L2.V.int.injEq, L2.V.str.injEq, L2.V.bl.injEq, L2.V.ref.injEq, exists_eq_left', exists_and_left, true_and, and_true, not_true_eq_false, not_false_eq_true, reduceCtorEq])
local macro_rules | `(tactic| walk_at "ly") => `(tactic| simp (config := { failIfUnchanged := false, maxSteps := 2000000 }) only [U.e_var, U.e_c, U.e_op, U.e_un, U.e_nil, U.e_cons, U.e_cb, U.e_call, U.e_tup, U.e_lst, U.e_if, U.e_andV, U.e_orV, U.e_notV, U.e_chain, U.e_test, U.e_B, U.e_and, U.e_or, U.e_not, U.e_asg, U.e_name, U.e_seq, U.e_next, U.e_ret, U.e_ifS, U.e_drop, U.e_part, U.e_noPart, U.e_sl, U.e_I0, U.e_I, U.e_exbl, U.e_exint, U.e_exstr, U.e_exsome, U.e_pair, U.e_expair, U.e_m1, U.e_m0, U.e_bm, U.e_bm0, U.e_fld, U.e_sfld, U.e_then, U.e_star, U.e_yes, U.e_gcons, U.e_gnil, U.e_gtup, U.e_gsub, U.e_make, U.e_makeK, U.e_callN, U.e_meth, U.e_kTup, U.e_lcL, U.e_lcT, U.e_lcS, U.e_lcR, U.e_lcR2, U.e_forL, U.e_forT, U.e_forR, U.e_forR2, U.e_forE, U.e_lstRg, L2.wipe, eq_self,
  U.rSlU, U.rInt1, U.rI1, U.rI2, L2.rU, U.rListU, L2.scal,
  L2.start, List.map_cons, List.map_nil, List.length_cons, List.length_nil, List.cons_append, List.nil_append, List.append_nil, List.getElem?_cons_zero, List.getElem?_cons_succ, List.set_cons_zero, List.set_cons_succ, Nat.reduceAdd, Nat.reduceSub, List.reduceReplicate, Nat.zero_add,
  if_true, if_false, Bool.false_eq_true, decide_eq_true_eq, Bool.not_eq_true', decide_eq_false_iff_not, Bool.not_true, Bool.not_false, L2.V.int.injEq, L2.V.str.injEq, L2.V.bl.injEq, L2.V.ref.injEq, exists_eq_left', exists_and_left, true_and, and_true, not_true_eq_false, not_false_eq_true, reduceCtorEq])
local macro_rules | `(tactic| walk_at "lw") => `(tactic| simp (config := { failIfUnchanged := false, maxSteps := 2000000 }) only [U.e_var, U.e_c, U.e_op, U.e_un, U.e_nil, U.e_cons, U.e_cb, U.e_call, U.e_tup, U.e_lst, U.e_if, U.e_andV, U.e_orV, U.e_notV, U.e_chain, U.e_test, U.e_B, U.e_and, U.e_or, U.e_not, U.e_asg, U.e_name, U.e_seq, U.e_next, U.e_ret, U.e_ifS, U.e_drop, U.e_part, U.e_noPart, U.e_sl, U.e_I0, U.e_I, U.e_exbl, U.e_exint, U.e_exstr, U.e_exsome, U.e_pair, U.e_expair, U.e_m1, U.e_m0, U.e_bm, U.e_bm0, U.e_fld, U.e_sfld, U.e_then, U.e_star, U.e_yes, U.e_gcons, U.e_gnil, U.e_gtup, U.e_gsub, U.e_make, U.e_makeK, U.e_callN, U.e_meth, U.e_lcL, U.e_lcT, U.e_lcS, U.e_lcR, U.e_lcR2, U.e_forL, U.e_forT, U.e_forR, U.e_forR2, U.e_forE, U.e_lstRg, L2.wipe, eq_self,
  U.rInt1, U.rI1, U.rI2, L2.rU, U.rListU, L2.scal,
  L2.start, List.map_cons, List.map_nil, List.length_cons, List.length_nil, List.cons_append, List.nil_append, List.append_nil, List.getElem?_cons_zero, List.getElem?_cons_succ, List.set_cons_zero, List.set_cons_succ, Nat.reduceAdd, Nat.reduceSub, List.reduceReplicate, Nat.zero_add,
  if_true, if_false, Bool.false_eq_true, decide_eq_true_eq, Bool.not_eq_true', decide_eq_false_iff_not, Bool.not_true, Bool.not_false, L2.V.int.injEq, L2.V.str.injEq, L2.V.bl.injEq, L2.V.ref.injEq, exists_eq_left', exists_and_left, true_and, and_true, not_true_eq_false, not_false_eq_true, reduceCtorEq])
local macro_rules | `(tactic| walk_at "vmem") => `(tactic| (first | assumption | exact V.mset_same | exact V.mset_get2 (by assumption) | exact (V.mset_ne (by assumption)).trans (by assumption) | exact (V.mset_ne (by assumption)).trans V.mset_same | exact (V.mset_ne (by assumption)).trans ((V.mset_ne (by assumption)).trans (by assumption))))
local macro_rules | `(tactic| walk_at "vset") => `(tactic| (first | exact V.mset_set | exact V.mset_set2 (by assumption) | exact rfl))
local macro_rules | `(tactic| walk_at "dw") => `(tactic| (repeat (first | (with_reducible (first | refine V.x_seq ?_ | refine V.x_op ?_ | refine V.x_cons ?_ | refine V.x_nil ?_ | refine V.x_c ?_ | refine V.x_tup ?_ | refine V.x_lst ?_ | refine V.x_lstM ?_ | refine V.x_if ?_ | refine V.x_B ?_ | refine V.x_and ?_ | refine V.x_or ?_ | refine V.x_not ?_ | refine V.x_andV ?_ | refine V.x_orV ?_ | refine V.x_notV ?_ | refine V.x_chain ?_ | refine V.x_cb ?_ | refine V.x_then ?_ | refine V.x_star ?_ | refine V.x_part ?_ | refine V.x_noPart ?_ | refine V.x_sl ?_ | refine V.x_fld ?_ | refine V.x_sfld ?_ | refine V.x_neg ?_ | refine V.x_join ?_ | refine V.x_append ?_ | refine V.x_lstRg ?_ | refine V.x_rg1 ?_ | refine V.x_rg2 ?_ | refine V.x_revL ?_ | refine V.x_joinF ?_ | refine V.x_call ?_ | refine V.x_callN ?_ | refine V.x_meth ?_ | refine V.x_makeK ?_ | refine V.x_lc ?_ | refine V.x_yes ?_ | refine V.x_next ?_ | refine V.x_break ?_ | refine V.x_cont ?_ | refine V.x_drop ?_ | refine V.x_ret ?_ | refine V.x_retN ?_ | refine V.x_ifS ?_ | refine V.x_asg ?_ | refine V.x_gN ?_ | refine V.x_par ?_ | refine V.x_for ?_ | refine V.x_gs1 ?_ | refine V.x_gs0 ?_ | refine V.x_iL ?_ | refine V.x_iT ?_ | refine V.x_iS ?_ | refine V.x_iR1 ?_ | refine V.x_iR2 ?_ | refine V.x_diL ?_ | refine V.x_bl ?_ | refine V.x_int ?_ | refine V.x_int2 ?_ | refine V.x_str0 ?_ | refine V.x_two ?_ | refine V.x_tr ?_ | refine V.x_addI ?_ | refine V.x_I1 ?_ | refine V.x_ltI ?_ | refine V.x_eqI ?_ | refine V.x_eqS ?_ | refine V.x_neI ?_ | refine V.x_neS ?_ | refine V.x_isN ?_ | refine V.x_notN ?_ | refine V.x_isB ?_ | refine V.x_notB ?_ | refine V.x_lenT ?_ | refine V.x_lenL ?_ | refine V.x_listL ?_ | refine V.x_listT ?_ | refine V.x_tupL ?_ | refine V.x_tupT ?_ | refine V.x_int1 ?_ | refine V.x_int21 ?_ | refine V.x_slT ?_ | refine V.x_slL ?_ | refine V.x_all ?_ | refine V.x_tfE ?_ | refine V.x_tfF ?_ | refine V.x_tupE ?_ | refine V.x_strE ?_ | refine V.x_r1 ?_ | refine V.x_r2 ?_ | refine V.x_true ?_ | refine V.x_false ?_ | refine V.x_nfalse ?_ | refine V.x_ntrue ?_ | refine V.x_iET ?_ | refine V.x_iE ?_ | refine V.x_iZ ?_ | refine V.x_tf1 ?_ | refine V.x_tf1F ?_ | refine V.x_tup1 ?_ | refine V.x_lst1 ?_ | refine V.x_lst2 ?_ | refine V.x_starT ?_ | refine V.x_starF ?_ | refine V.x_starL ?_ | refine V.x_eqIN ?_ | refine V.x_eqNI ?_ | refine V.x_eqSN ?_ | refine V.x_eqNS ?_ | refine V.x_eqNN ?_ | refine V.x_eqBB ?_ | refine V.x_neIN ?_ | refine V.x_neNI ?_ | refine V.x_neSN ?_ | refine V.x_neNS ?_ | refine V.x_neNN ?_ | refine V.x_neBB ?_ | refine V.x_iZT ?_ | refine V.x_tup2 ?_ | refine V.x_par3 ?_ | refine V.x_three ?_ | refine V.x_tupF ?_ | refine V.x_tfL ?_ | refine V.x_lstRgM ?_ | refine V.x_callX ?_ | refine V.x_callNX ?_ | refine V.x_raiseX ?_ | refine V.x_dnewE ?_)) | ((with_reducible refine' V.x_var ?_ ?_); rotate_left; exact rfl) | ((with_reducible refine' V.x_aug ?_ ?_); rotate_left; exact rfl) | ((with_reducible refine' V.x_lamE ?_ ?_); assumption) | ((with_reducible refine' V.x_gT ?_ ?_); exact rfl) | ((with_reducible refine' And.intro (a := _ ≤ PySem.sizeLine) ?_ ?_); exact Nat.le_of_ble_eq_true rfl) | ((with_reducible refine' V.x_ixT ?_ ?_); rotate_left; exact rfl) | ((with_reducible refine' V.x_ixL ?_ ?_); rotate_left; exact rfl) | ((with_reducible refine' V.x_iteT ?_ ?_); (first | omega | (simp only [List.length_cons, List.length_nil, List.length_map, List.length_append]; omega))) | ((with_reducible refine' V.x_iteF ?_ ?_); (first | omega | (simp only [List.length_cons, List.length_nil, List.length_map, List.length_append]; omega))) | ((with_reducible refine' V.x_itenT ?_ ?_); (first | omega | (simp only [List.length_cons, List.length_nil, List.length_map, List.length_append]; omega))) | ((with_reducible refine' V.x_itenF ?_ ?_); (first | omega | (simp only [List.length_cons, List.length_nil, List.length_map, List.length_append]; omega))) | ((with_reducible refine' V.x_sfldQ ?_ ?_ ?_ ?_); assumption; assumption; exact Nat.le_of_ble_eq_true rfl) | ((with_reducible refine' V.x_sfldP ?_ ?_ ?_ ?_ ?_); rotate_left 2; assumption; assumption; assumption; exact Nat.le_of_ble_eq_true rfl) | ((with_reducible refine' V.x_fldI 0 ?_ ?_ ?_ ?_ ?_ ?_); rotate_left; exact rfl; exact rfl; assumption; assumption; decide +kernel) | ((with_reducible refine' V.x_fldI 1 ?_ ?_ ?_ ?_ ?_ ?_); rotate_left; exact rfl; exact rfl; assumption; assumption; decide +kernel) | ((with_reducible refine' V.x_fldI 2 ?_ ?_ ?_ ?_ ?_ ?_); rotate_left; exact rfl; exact rfl; assumption; assumption; decide +kernel) | ((with_reducible refine' V.x_fldI 3 ?_ ?_ ?_ ?_ ?_ ?_); rotate_left; exact rfl; exact rfl; assumption; assumption; decide +kernel) | ((with_reducible refine' V.x_fldI 4 ?_ ?_ ?_ ?_ ?_ ?_); rotate_left; exact rfl; exact rfl; assumption; assumption; decide +kernel) | ((with_reducible refine' V.x_fldI 5 ?_ ?_ ?_ ?_ ?_ ?_); rotate_left; exact rfl; exact rfl; assumption; assumption; decide +kernel) | ((with_reducible refine' V.x_fldI 6 ?_ ?_ ?_ ?_ ?_ ?_); rotate_left; exact rfl; exact rfl; assumption; assumption; decide +kernel) | ((with_reducible refine' V.x_fldQ 0 ?_ ?_ ?_ ?_ ?_ ?_ ?_); rotate_left 3; assumption; exact rfl; exact rfl; assumption; assumption; (first | decide +kernel | (simp only [List.map_cons, List.map_nil]; decide +kernel))) | ((with_reducible refine' V.x_fldQ 1 ?_ ?_ ?_ ?_ ?_ ?_ ?_); rotate_left 3; assumption; exact rfl; exact rfl; assumption; assumption; (first | decide +kernel | (simp only [List.map_cons, List.map_nil]; decide +kernel))) | ((with_reducible refine' V.x_fldQ 2 ?_ ?_ ?_ ?_ ?_ ?_ ?_); rotate_left 3; assumption; exact rfl; exact rfl; assumption; assumption; (first | decide +kernel | (simp only [List.map_cons, List.map_nil]; decide +kernel))) | ((with_reducible refine' V.x_fldQ 3 ?_ ?_ ?_ ?_ ?_ ?_ ?_); rotate_left 3; assumption; exact rfl; exact rfl; assumption; assumption; (first | decide +kernel | (simp only [List.map_cons, List.map_nil]; decide +kernel))) | ((with_reducible refine' V.x_fldQ 4 ?_ ?_ ?_ ?_ ?_ ?_ ?_); rotate_left 3; assumption; exact rfl; exact rfl; assumption; assumption; (first | decide +kernel | (simp only [List.map_cons, List.map_nil]; decide +kernel))) | ((with_reducible refine' V.x_fldQ 5 ?_ ?_ ?_ ?_ ?_ ?_ ?_); rotate_left 3; assumption; exact rfl; exact rfl; assumption; assumption; (first | decide +kernel | (simp only [List.map_cons, List.map_nil]; decide +kernel))) | ((with_reducible refine' V.x_fldQ 6 ?_ ?_ ?_ ?_ ?_ ?_ ?_); rotate_left 3; assumption; exact rfl; exact rfl; assumption; assumption; (first | decide +kernel | (simp only [List.map_cons, List.map_nil]; decide +kernel))))))
local macro_rules | `(tactic| walk_at "dy") => `(tactic| (repeat (first | (with_reducible (first | refine V.x_seq ?_ | refine V.x_op ?_ | refine V.x_cons ?_ | refine V.x_nil ?_ | refine V.x_c ?_ | refine V.x_tup ?_ | refine V.x_lst ?_ | refine V.x_lstM ?_ | refine V.x_if ?_ | refine V.x_B ?_ | refine V.x_and ?_ | refine V.x_or ?_ | refine V.x_not ?_ | refine V.x_andV ?_ | refine V.x_orV ?_ | refine V.x_notV ?_ | refine V.x_chain ?_ | refine V.x_cb ?_ | refine V.x_then ?_ | refine V.x_star ?_ | refine V.x_part ?_ | refine V.x_noPart ?_ | refine V.x_sl ?_ | refine V.x_fld ?_ | refine V.x_sfld ?_ | refine V.x_neg ?_ | refine V.x_join ?_ | refine V.x_append ?_ | refine V.x_lstRg ?_ | refine V.x_rg1 ?_ | refine V.x_rg2 ?_ | refine V.x_revL ?_ | refine V.x_joinF ?_ | refine V.x_call ?_ | refine V.x_callN ?_ | refine V.x_meth ?_ | refine V.x_makeK ?_ | refine V.x_lc ?_ | refine V.x_yes ?_ | refine V.x_next ?_ | refine V.x_break ?_ | refine V.x_cont ?_ | refine V.x_drop ?_ | refine V.x_ret ?_ | refine V.x_retN ?_ | refine V.x_ifS ?_ | refine V.x_asg ?_ | refine V.x_for ?_ | refine V.x_gs1 ?_ | refine V.x_gs0 ?_ | refine V.x_iL ?_ | refine V.x_iT ?_ | refine V.x_iS ?_ | refine V.x_iR1 ?_ | refine V.x_iR2 ?_ | refine V.x_diL ?_ | refine V.x_bl ?_ | refine V.x_int ?_ | refine V.x_int2 ?_ | refine V.x_str0 ?_ | refine V.x_two ?_ | refine V.x_tr ?_ | refine V.x_addI ?_ | refine V.x_I1 ?_ | refine V.x_ltI ?_ | refine V.x_eqI ?_ | refine V.x_eqS ?_ | refine V.x_neI ?_ | refine V.x_neS ?_ | refine V.x_isN ?_ | refine V.x_notN ?_ | refine V.x_isB ?_ | refine V.x_notB ?_ | refine V.x_lenT ?_ | refine V.x_lenL ?_ | refine V.x_listL ?_ | refine V.x_listT ?_ | refine V.x_tupL ?_ | refine V.x_tupT ?_ | refine V.x_int1 ?_ | refine V.x_int21 ?_ | refine V.x_slT ?_ | refine V.x_slL ?_ | refine V.x_all ?_ | refine V.x_tfE ?_ | refine V.x_tfF ?_ | refine V.x_tupE ?_ | refine V.x_strE ?_ | refine V.x_r1 ?_ | refine V.x_r2 ?_ | refine V.x_true ?_ | refine V.x_false ?_ | refine V.x_nfalse ?_ | refine V.x_ntrue ?_ | refine V.x_iET ?_ | refine V.x_iE ?_ | refine V.x_iZ ?_ | refine V.x_tf1 ?_ | refine V.x_tf1F ?_ | refine V.x_tup1 ?_ | refine V.x_lst1 ?_ | refine V.x_lst2 ?_ | refine V.x_starT ?_ | refine V.x_starF ?_ | refine V.x_starL ?_ | refine V.x_eqIN ?_ | refine V.x_eqNI ?_ | refine V.x_eqSN ?_ | refine V.x_eqNS ?_ | refine V.x_eqNN ?_ | refine V.x_eqBB ?_ | refine V.x_neIN ?_ | refine V.x_neNI ?_ | refine V.x_neSN ?_ | refine V.x_neNS ?_ | refine V.x_neNN ?_ | refine V.x_neBB ?_ | refine V.x_iZT ?_ | refine V.x_tup2 ?_ | refine V.x_three ?_ | refine V.x_tupF ?_ | refine V.x_tfL ?_ | refine V.x_lstRgM ?_ | refine V.x_callX ?_ | refine V.x_callNX ?_ | refine V.x_raiseX ?_ | refine V.x_dnewE ?_)) | ((with_reducible refine V.x_gN ?_); (try dsimp only [List.set_cons_zero, List.set_cons_succ])) | ((with_reducible refine V.x_par ?_); (try dsimp only [List.set_cons_zero, List.set_cons_succ])) | ((with_reducible refine V.x_par3 ?_); (try dsimp only [List.set_cons_zero, List.set_cons_succ])) | ((with_reducible refine' V.x_var ?_ ?_); rotate_left; exact rfl) | ((with_reducible refine' V.x_aug ?_ ?_); rotate_left; exact rfl; (try dsimp only [List.set_cons_zero, List.set_cons_succ])) | ((with_reducible refine' V.x_lamE ?_ ?_); assumption) | ((with_reducible refine' V.x_gT ?_ ?_); exact rfl) | ((with_reducible refine' And.intro (a := _ ≤ PySem.sizeLine) ?_ ?_); exact Nat.le_of_ble_eq_true rfl) | ((with_reducible refine' V.x_ixT ?_ ?_); rotate_left; exact rfl) | ((with_reducible refine' V.x_ixL ?_ ?_); rotate_left; exact rfl) | ((with_reducible refine' V.x_iteT ?_ ?_); (first | omega | (simp only [List.length_cons, List.length_nil, List.length_map, List.length_append]; omega))) | ((with_reducible refine' V.x_iteF ?_ ?_); (first | omega | (simp only [List.length_cons, List.length_nil, List.length_map, List.length_append]; omega))) | ((with_reducible refine' V.x_itenT ?_ ?_); (first | omega | (simp only [List.length_cons, List.length_nil, List.length_map, List.length_append]; omega))) | ((with_reducible refine' V.x_itenF ?_ ?_); (first | omega | (simp only [List.length_cons, List.length_nil, List.length_map, List.length_append]; omega))) | ((with_reducible refine' V.x_sfldQ ?_ ?_ ?_ ?_); assumption; assumption; exact Nat.le_of_ble_eq_true rfl) | ((with_reducible refine' V.x_sfldP ?_ ?_ ?_ ?_ ?_); rotate_left 2; assumption; assumption; assumption; exact Nat.le_of_ble_eq_true rfl) | ((with_reducible refine' V.x_fldI 0 ?_ ?_ ?_ ?_ ?_ ?_); rotate_left; exact rfl; exact rfl; assumption; assumption; decide +kernel) | ((with_reducible refine' V.x_fldI 1 ?_ ?_ ?_ ?_ ?_ ?_); rotate_left; exact rfl; exact rfl; assumption; assumption; decide +kernel) | ((with_reducible refine' V.x_fldI 2 ?_ ?_ ?_ ?_ ?_ ?_); rotate_left; exact rfl; exact rfl; assumption; assumption; decide +kernel) | ((with_reducible refine' V.x_fldI 3 ?_ ?_ ?_ ?_ ?_ ?_); rotate_left; exact rfl; exact rfl; assumption; assumption; decide +kernel) | ((with_reducible refine' V.x_fldI 4 ?_ ?_ ?_ ?_ ?_ ?_); rotate_left; exact rfl; exact rfl; assumption; assumption; decide +kernel) | ((with_reducible refine' V.x_fldI 5 ?_ ?_ ?_ ?_ ?_ ?_); rotate_left; exact rfl; exact rfl; assumption; assumption; decide +kernel) | ((with_reducible refine' V.x_fldI 6 ?_ ?_ ?_ ?_ ?_ ?_); rotate_left; exact rfl; exact rfl; assumption; assumption; decide +kernel) | ((with_reducible refine' V.x_fldQ 0 ?_ ?_ ?_ ?_ ?_ ?_ ?_); rotate_left 3; assumption; exact rfl; exact rfl; assumption; assumption; (first | decide +kernel | (simp only [List.map_cons, List.map_nil]; decide +kernel))) | ((with_reducible refine' V.x_fldQ 1 ?_ ?_ ?_ ?_ ?_ ?_ ?_); rotate_left 3; assumption; exact rfl; exact rfl; assumption; assumption; (first | decide +kernel | (simp only [List.map_cons, List.map_nil]; decide +kernel))) | ((with_reducible refine' V.x_fldQ 2 ?_ ?_ ?_ ?_ ?_ ?_ ?_); rotate_left 3; assumption; exact rfl; exact rfl; assumption; assumption; (first | decide +kernel | (simp only [List.map_cons, List.map_nil]; decide +kernel))) | ((with_reducible refine' V.x_fldQ 3 ?_ ?_ ?_ ?_ ?_ ?_ ?_); rotate_left 3; assumption; exact rfl; exact rfl; assumption; assumption; (first | decide +kernel | (simp only [List.map_cons, List.map_nil]; decide +kernel))) | ((with_reducible refine' V.x_fldQ 4 ?_ ?_ ?_ ?_ ?_ ?_ ?_); rotate_left 3; assumption; exact rfl; exact rfl; assumption; assumption; (first | decide +kernel | (simp only [List.map_cons, List.map_nil]; decide +kernel))) | ((with_reducible refine' V.x_fldQ 5 ?_ ?_ ?_ ?_ ?_ ?_ ?_); rotate_left 3; assumption; exact rfl; exact rfl; assumption; assumption; (first | decide +kernel | (simp only [List.map_cons, List.map_nil]; decide +kernel))) | ((with_reducible refine' V.x_fldQ 6 ?_ ?_ ?_ ?_ ?_ ?_ ?_); rotate_left 3; assumption; exact rfl; exact rfl; assumption; assumption; (first | decide +kernel | (simp only [List.map_cons, List.map_nil]; decide +kernel))) | (with_reducible (first | refine V.x_opX ?_ | refine V.x_split ?_)) | ((with_reducible apply V.x_callLX); exact rfl; (with_reducible exact rfl)) | ((with_reducible apply V.x_callLN); exact rfl; (with_reducible exact rfl)) | ((with_reducible refine' V.x_orL ?_); (with_reducible apply V.x_callLX); exact rfl; (with_reducible exact rfl)) | ((with_reducible refine' V.x_orL ?_); (with_reducible apply V.x_callLN); exact rfl; (with_reducible exact rfl)) | (with_reducible refine' V.x_orR ?_) | ((with_reducible apply V.x_ap1); walk_at "vmem") | ((with_reducible apply V.x_ap2); walk_at "vmem"; (simp [V.sizeLineN]); (first | rw [V.mset_set] | rw [V.mset_set2 (by assumption)] | skip)))))
local macro_rules | `(tactic| walk_at "dx") => `(tactic| (repeat (first | (with_reducible (first | refine V.x_seq ?_ | refine V.x_op ?_ | refine V.x_cons ?_ | refine V.x_nil ?_ | refine V.x_c ?_ | refine V.x_tup ?_ | refine V.x_lst ?_ | refine V.x_lstM ?_ | refine V.x_if ?_ | refine V.x_B ?_ | refine V.x_and ?_ | refine V.x_or ?_ | refine V.x_not ?_ | refine V.x_andV ?_ | refine V.x_orV ?_ | refine V.x_notV ?_ | refine V.x_chain ?_ | refine V.x_cb ?_ | refine V.x_then ?_ | refine V.x_star ?_ | refine V.x_part ?_ | refine V.x_noPart ?_ | refine V.x_sl ?_ | refine V.x_fld ?_ | refine V.x_sfld ?_ | refine V.x_neg ?_ | refine V.x_join ?_ | refine V.x_append ?_ | refine V.x_lstRg ?_ | refine V.x_rg1 ?_ | refine V.x_rg2 ?_ | refine V.x_revL ?_ | refine V.x_joinF ?_ | refine V.x_call ?_ | refine V.x_callN ?_ | refine V.x_meth ?_ | refine V.x_makeK ?_ | refine V.x_lc ?_ | refine V.x_yes ?_ | refine V.x_next ?_ | refine V.x_break ?_ | refine V.x_cont ?_ | refine V.x_drop ?_ | refine V.x_ret ?_ | refine V.x_retN ?_ | refine V.x_ifS ?_ | refine V.x_asg ?_ | refine V.x_for ?_ | refine V.x_gs1 ?_ | refine V.x_gs0 ?_ | refine V.x_iL ?_ | refine V.x_iT ?_ | refine V.x_iS ?_ | refine V.x_iR1 ?_ | refine V.x_iR2 ?_ | refine V.x_diL ?_ | refine V.x_bl ?_ | refine V.x_int ?_ | refine V.x_int2 ?_ | refine V.x_str0 ?_ | refine V.x_two ?_ | refine V.x_tr ?_ | refine V.x_addI ?_ | refine V.x_I1 ?_ | refine V.x_ltI ?_ | refine V.x_eqI ?_ | refine V.x_eqS ?_ | refine V.x_neI ?_ | refine V.x_neS ?_ | refine V.x_isN ?_ | refine V.x_notN ?_ | refine V.x_isB ?_ | refine V.x_notB ?_ | refine V.x_lenT ?_ | refine V.x_lenL ?_ | refine V.x_listL ?_ | refine V.x_listT ?_ | refine V.x_tupL ?_ | refine V.x_tupT ?_ | refine V.x_int1 ?_ | refine V.x_int21 ?_ | refine V.x_slT ?_ | refine V.x_slL ?_ | refine V.x_all ?_ | refine V.x_tfE ?_ | refine V.x_tfF ?_ | refine V.x_tupE ?_ | refine V.x_strE ?_ | refine V.x_r1 ?_ | refine V.x_r2 ?_ | refine V.x_true ?_ | refine V.x_false ?_ | refine V.x_nfalse ?_ | refine V.x_ntrue ?_ | refine V.x_iET ?_ | refine V.x_iE ?_ | refine V.x_iZ ?_ | refine V.x_tf1 ?_ | refine V.x_tf1F ?_ | refine V.x_tup1 ?_ | refine V.x_lst1 ?_ | refine V.x_lst2 ?_ | refine V.x_starT ?_ | refine V.x_starF ?_ | refine V.x_starL ?_ | refine V.x_eqIN ?_ | refine V.x_eqNI ?_ | refine V.x_eqSN ?_ | refine V.x_eqNS ?_ | refine V.x_eqNN ?_ | refine V.x_eqBB ?_ | refine V.x_neIN ?_ | refine V.x_neNI ?_ | refine V.x_neSN ?_ | refine V.x_neNS ?_ | refine V.x_neNN ?_ | refine V.x_neBB ?_ | refine V.x_iZT ?_ | refine V.x_tup2 ?_ | refine V.x_three ?_ | refine V.x_tupF ?_ | refine V.x_tfL ?_ | refine V.x_lstRgM ?_ | refine V.x_callX ?_ | refine V.x_callNX ?_ | refine V.x_raiseX ?_ | refine V.x_dnewE ?_)) | ((with_reducible refine V.x_gN ?_); (try dsimp only [List.set_cons_zero, List.set_cons_succ])) | ((with_reducible refine V.x_par ?_); (try dsimp only [List.set_cons_zero, List.set_cons_succ])) | ((with_reducible refine V.x_par3 ?_); (try dsimp only [List.set_cons_zero, List.set_cons_succ])) | ((with_reducible refine' V.x_var ?_ ?_); rotate_left; exact rfl) | ((with_reducible refine' V.x_aug ?_ ?_); rotate_left; exact rfl; (try dsimp only [List.set_cons_zero, List.set_cons_succ])) | ((with_reducible refine' V.x_lamE ?_ ?_); assumption) | ((with_reducible refine' V.x_gT ?_ ?_); exact rfl) | ((with_reducible refine' And.intro (a := _ ≤ PySem.sizeLine) ?_ ?_); exact Nat.le_of_ble_eq_true rfl) | ((with_reducible refine' V.x_ixT ?_ ?_); rotate_left; exact rfl) | ((with_reducible refine' V.x_ixL ?_ ?_); rotate_left; exact rfl) | ((with_reducible refine' V.x_iteT ?_ ?_); (first | omega | (simp only [List.length_cons, List.length_nil, List.length_map, List.length_append]; omega))) | ((with_reducible refine' V.x_iteF ?_ ?_); (first | omega | (simp only [List.length_cons, List.length_nil, List.length_map, List.length_append]; omega))) | ((with_reducible refine' V.x_itenT ?_ ?_); (first | omega | (simp only [List.length_cons, List.length_nil, List.length_map, List.length_append]; omega))) | ((with_reducible refine' V.x_itenF ?_ ?_); (first | omega | (simp only [List.length_cons, List.length_nil, List.length_map, List.length_append]; omega))) | ((with_reducible refine' V.x_sfldQ ?_ ?_ ?_ ?_); assumption; assumption; exact Nat.le_of_ble_eq_true rfl) | ((with_reducible refine' V.x_sfldP ?_ ?_ ?_ ?_ ?_); rotate_left 2; assumption; assumption; assumption; exact Nat.le_of_ble_eq_true rfl) | ((with_reducible refine' V.x_fldI 0 ?_ ?_ ?_ ?_ ?_ ?_); rotate_left; exact rfl; exact rfl; assumption; assumption; decide +kernel) | ((with_reducible refine' V.x_fldI 1 ?_ ?_ ?_ ?_ ?_ ?_); rotate_left; exact rfl; exact rfl; assumption; assumption; decide +kernel) | ((with_reducible refine' V.x_fldI 2 ?_ ?_ ?_ ?_ ?_ ?_); rotate_left; exact rfl; exact rfl; assumption; assumption; decide +kernel) | ((with_reducible refine' V.x_fldI 3 ?_ ?_ ?_ ?_ ?_ ?_); rotate_left; exact rfl; exact rfl; assumption; assumption; decide +kernel) | ((with_reducible refine' V.x_fldI 4 ?_ ?_ ?_ ?_ ?_ ?_); rotate_left; exact rfl; exact rfl; assumption; assumption; decide +kernel) | ((with_reducible refine' V.x_fldI 5 ?_ ?_ ?_ ?_ ?_ ?_); rotate_left; exact rfl; exact rfl; assumption; assumption; decide +kernel) | ((with_reducible refine' V.x_fldI 6 ?_ ?_ ?_ ?_ ?_ ?_); rotate_left; exact rfl; exact rfl; assumption; assumption; decide +kernel) | ((with_reducible refine' V.x_fldQ 0 ?_ ?_ ?_ ?_ ?_ ?_ ?_); rotate_left 3; assumption; exact rfl; exact rfl; assumption; assumption; (first | decide +kernel | (simp only [List.map_cons, List.map_nil]; decide +kernel))) | ((with_reducible refine' V.x_fldQ 1 ?_ ?_ ?_ ?_ ?_ ?_ ?_); rotate_left 3; assumption; exact rfl; exact rfl; assumption; assumption; (first | decide +kernel | (simp only [List.map_cons, List.map_nil]; decide +kernel))) | ((with_reducible refine' V.x_fldQ 2 ?_ ?_ ?_ ?_ ?_ ?_ ?_); rotate_left 3; assumption; exact rfl; exact rfl; assumption; assumption; (first | decide +kernel | (simp only [List.map_cons, List.map_nil]; decide +kernel))) | ((with_reducible refine' V.x_fldQ 3 ?_ ?_ ?_ ?_ ?_ ?_ ?_); rotate_left 3; assumption; exact rfl; exact rfl; assumption; assumption; (first | decide +kernel | (simp only [List.map_cons, List.map_nil]; decide +kernel))) | ((with_reducible refine' V.x_fldQ 4 ?_ ?_ ?_ ?_ ?_ ?_ ?_); rotate_left 3; assumption; exact rfl; exact rfl; assumption; assumption; (first | decide +kernel | (simp only [List.map_cons, List.map_nil]; decide +kernel))) | ((with_reducible refine' V.x_fldQ 5 ?_ ?_ ?_ ?_ ?_ ?_ ?_); rotate_left 3; assumption; exact rfl; exact rfl; assumption; assumption; (first | decide +kernel | (simp only [List.map_cons, List.map_nil]; decide +kernel))) | ((with_reducible refine' V.x_fldQ 6 ?_ ?_ ?_ ?_ ?_ ?_ ?_); rotate_left 3; assumption; exact rfl; exact rfl; assumption; assumption; (first | decide +kernel | (simp only [List.map_cons, List.map_nil]; decide +kernel))) | (with_reducible (first | refine V.x_opX ?_ | refine V.x_loopC ?_ | refine V.x_loopN ?_ | refine V.x_split ?_)) | ((with_reducible apply V.x_callLX); exact rfl; (with_reducible exact rfl)) | ((with_reducible apply V.x_callLN); exact rfl; (with_reducible exact rfl)) | ((with_reducible refine' V.x_orL ?_); (with_reducible apply V.x_callLX); exact rfl; (with_reducible exact rfl)) | ((with_reducible refine' V.x_orL ?_); (with_reducible apply V.x_callLN); exact rfl; (with_reducible exact rfl)) | (with_reducible refine' V.x_orR ?_) | ((with_reducible apply V.x_ap1); walk_at "vmem") | ((with_reducible apply V.x_ap2); walk_at "vmem"; (simp [V.sizeLineN]); (first | rw [V.mset_set] | rw [V.mset_set2 (by assumption)] | skip)))))
namespace G
open PySem PySem.Spec PyProof.Rows L2 U
end G
namespace G
open PySem PySem.Spec PyProof.Rows L2 U V
section
variable {P : Program} {w : World} {K : PySem.W.Frag} {mg : Str → Option Value} {base : Heap}
def tyNames : List String := ["NoneType", "bool", "int", "str", "list", "tuple", "dict"]
def spIsInteger (K : PySem.W.Frag) : DC := fun ds M R => ∃ d, ds = [d] ∧ ∃ t : String, TyD K M d (.type t) ∧ t ∈ tyNames ∧ ∃ b, (t == "int") = b ∧ R (.bl b) M
theorem okD_is_integer (T : Tx K mg) : FnOk P w K mg base L2.CX0 lv_is_integer T.f_is_integer T.d_is_integer p_is_integer (lift (spIsInteger K)) := by
  refine fnD T.F_is_integer sc_is_integer (fun ds M R h => ?_) (fun cdv A outer s H E hr => ?_)
  · first | (obtain ⟨rfl, _⟩ := h; rfl) | (obtain ⟨_, rfl, _⟩ := h; rfl) | (obtain ⟨_, _, rfl, _⟩ := h; rfl) | (obtain ⟨_, _, _, rfl, _⟩ := h; rfl) | (obtain ⟨_, _, _, _, rfl, _⟩ := h; rfl) | (obtain ⟨_, _, _, _, _, rfl, _⟩ := h; rfl) | (obtain ⟨_, _, _, _, _, _, rfl, _⟩ := h; rfl) | (obtain ⟨_, _, _, _, _, _, _, rfl, _⟩ := h; rfl) | (obtain ⟨_, _, _, _, _, _, _, _, rfl, _⟩ := h; rfl)
  · have hr64 := hr.units
    have hc_Namer := T.c_Namer
    have hi_Namer := T.i_Namer
    have hn_Namer_rule := T.na_Namer_rule
    have hn_Namer_width := T.na_Namer_width
    refine ⟨_, (pss_one (ps_ret (pe_and (pe_callB (call_isiK (K := K) rfl) (by rfl) T.n_isinstance (by decide +kernel) (pa_cons (pv 0) (pa_cons (pe_bt "int" rfl T.n_int (by decide +kernel)) pa_nil))) (pe_one (pe_not (pe_callB (call_isiK (K := K) rfl) (by rfl) T.n_isinstance (by decide +kernel) (pa_cons (pv 0) (pa_cons (pe_bt "bool" rfl T.n_bool (by decide +kernel)) pa_nil)))))))), ?_⟩
    refine ⟨_, inferInstance, fun ds M R h => ?_⟩
    obtain ⟨d, rfl, t, ty, ht, _, rfl, q⟩ := h
    walk_at "dw"
    have k1 : ∀ s : String, s ∈ tyNames → kitB s "int" = some (s == "int" || s == "bool") ∧ kitB s "bool" = some (s == "bool") := by decide +kernel
    obtain ⟨k2, k3⟩ := k1 t ht
    refine ⟨_, _, ty, kit_ty k2, ?_⟩
    walk_at "dw"
    cases h1 : (t == "int" || t == "bool") with
    | true =>
      walk_at "dw"
      refine ⟨_, _, ty, kit_ty k3, ?_⟩
      walk_at "dw"
      cases h2 : (t == "bool") with
      | true =>
        have e : t = "bool" := by simpa using h2
        subst e
        exact q
      | false =>
        rw [h2, Bool.or_false] at h1
        rw [h1] at q
        exact q
    | false =>
      walk_at "dw"
      rw [Bool.or_eq_false_iff] at h1
      rw [h1.1] at q
      exact q
def spIsText (K : PySem.W.Frag) : DC := fun ds M R => ∃ d, ∃ n : Nat, ds = [d, .int n] ∧ ((∃ z, d = .str z ∧ z.length ≤ 16777216 ∧ R (.bl (okText n z)) M) ∨ ∃ t : String, TyD K M d (.type t) ∧ t ∈ tyNames ∧ t ≠ "str" ∧ R (.bl false) M)
theorem okD_is_text (T : Tx K mg) : FnOk P w K mg base L2.CX0 lv_is_text T.f_is_text T.d_is_text p_is_text (lift (spIsText K)) := by
  refine fnD T.F_is_text sc_is_text (fun ds M R h => ?_) (fun cdv A outer s H E hr => ?_)
  · first | (obtain ⟨rfl, _⟩ := h; rfl) | (obtain ⟨_, rfl, _⟩ := h; rfl) | (obtain ⟨_, _, rfl, _⟩ := h; rfl) | (obtain ⟨_, _, _, rfl, _⟩ := h; rfl) | (obtain ⟨_, _, _, _, rfl, _⟩ := h; rfl) | (obtain ⟨_, _, _, _, _, rfl, _⟩ := h; rfl) | (obtain ⟨_, _, _, _, _, _, rfl, _⟩ := h; rfl) | (obtain ⟨_, _, _, _, _, _, _, rfl, _⟩ := h; rfl) | (obtain ⟨_, _, _, _, _, _, _, _, rfl, _⟩ := h; rfl)
  · have hr64 := hr.units
    have hc_Namer := T.c_Namer
    have hi_Namer := T.i_Namer
    have hn_Namer_rule := T.na_Namer_rule
    have hn_Namer_width := T.na_Namer_width
    refine ⟨_, (pss_one (ps_ret (pe_and (pe_callB (call_isiK (K := K) rfl) (by rfl) T.n_isinstance (by decide +kernel) (pa_cons (pv 0) (pa_cons (pe_bt "str" rfl T.n_str (by decide +kernel)) pa_nil))) (pe_and (pe_cmpR op_le (pe_callB (call_lenK (K := K) rfl) (by rfl) T.n_len (by decide +kernel) (pa_cons (pv 0) pa_nil)) (pv 1) (nomark _)) (pe_one (pe_callB (cr_allK (K := K) rfl rfl) (by rfl) T.n_all (by decide +kernel) (pa_cons (pe_lc (own := [("sign", 2)]) rfl sc_is_text.nd (pi_str (pv 0)) (blkOk_by (N := ["value", "most", "sign"]) (sc := L2.defScope s_is_text) (by decide +kernel)) (fun _ _ _ _ _ => (pg_name (i := 2) sc_is_text.nd rfl (by first | exact Or.inl rfl | exact Or.inr rfl))) (fun _ _ _ _ _ => pts_nil) (fun _ _ _ _ _ => (pe_cmpR (op_inK (K := K) rfl) (pv 2) (C8.pe_gc rfl T.k_SIGNS) (by rfl)))) pa_nil))))))), ?_⟩
    refine ⟨_, inferInstance, fun ds M R h => ?_⟩
    obtain ⟨d, n, rfl, h⟩ := h
    walk_at "dw"
    rcases h with ⟨z, rfl, hz, q⟩ | ⟨t, ty, ht, hs, q⟩
    · refine ⟨_, true, .str _, kit_ty (by decide +kernel), ?_⟩
      walk_at "dw"
      refine V.x_lenS ⟨by rw [sizeLine_eq]; exact hz, ?_⟩
      walk_at "dw"
      refine x_ite _ (fun c => ?_) (fun c => ?_)
      · have c' : z.length ≤ n := by exact_mod_cast c
        walk_at "dw"
        refine ⟨by rw [List.length_map, cd_len]; exact hz, ?_⟩
        refine gather_all (f := fun d => match d with | .str y => .bl (isSign (y.cps.toList.getD 0 0)) | d => d) ?_ trivial ?_
        · intro x hx Ky hy
          obtain ⟨c, hc, rfl⟩ := List.mem_map.mp hx
          walk_at "dw"
          exact ⟨c, rfl, hy⟩
        · walk_at "dw"
          refine ⟨_, (cd z).map isSign, rfl, .inl ?_, ?_⟩
          · rw [List.map_map, List.map_map]
            rfl
          · have e3 : ((cd z).map isSign).all id = okText n z := by
              unfold okText
              rw [decide_eq_true c', List.all_map]
              rfl
            rw [e3]
            exact q
      · have e3 : okText n z = false := by
          unfold okText
          rw [decide_eq_false (fun z => c (by exact_mod_cast z)), Bool.false_and]
        rw [e3] at q
        exact q
    · have k1 : ∀ s : String, s ∈ tyNames → s ≠ "str" → kitB s "str" = some false := by decide +kernel
      refine ⟨_, _, ty, kit_ty (k1 t ht hs), ?_⟩
      walk_at "dw"
      exact q
theorem cutG_to {α : Type} (xs : List α) (n : Nat) : cutG xs none (some (n : Int)) = xs.take n := by
  unfold cutG
  rw [HT.sIx_none, HT.sIx_nat, List.drop_zero, Nat.sub_zero]
  by_cases h : n ≤ xs.length
  · rw [Nat.min_eq_left h]
  · rw [Nat.min_eq_right (by omega), List.take_of_length_le (by omega), List.take_of_length_le (by omega)]
theorem cutG_from {α : Type} (xs : List α) (n : Nat) : cutG xs (some (n : Int)) none = xs.drop n := by
  unfold cutG
  rw [HT.sIx_none, HT.sIx_nat]
  by_cases h : n ≤ xs.length
  · rw [Nat.min_eq_left h]
    exact List.take_of_length_le (by rw [List.length_drop]; omega)
  · rw [Nat.min_eq_right (by omega), Nat.sub_self, List.take_zero, List.drop_eq_nil_of_le (by omega)]
theorem rg_nums (n : Nat) : rgD 0 (n : Int) = nums n := by
  unfold rgD nums
  rw [show ((n : Int) - 0).toNat = n by omega]
  refine List.map_congr_left fun k _ => ?_
  rw [Int.zero_add]
  rfl
end
end G
namespace G
open PySem PySem.Spec PyProof.Rows L2 U V
section
variable {P : Program} {w : World} {K : PySem.W.Frag} {mg : Str → Option Value} {base : Heap}
theorem draw_D {p : Addr} {n : Int} {M : Mem} {R : QD} (hn : 0 < n) (hn2 : n < 1073741824) (q : ∀ k : Nat, (k : Int) < n → R (.int k) M) : spDrawD [potD p, .int n] M R := ⟨p, n, rfl, ⟨hn, hn2⟩, fun r r0 r1 => by
  obtain ⟨j, rfl⟩ := Int.eq_ofNat_of_zero_le r0
  exact q j r1⟩
end
end G
namespace G
open PySem PySem.Spec PyProof.Rows L2 U V
section
variable {P : Program} {w : World} {K : PySem.W.Frag} {mg : Str → Option Value} {base : Heap}
theorem nums_get {n i : Nat} {x : D} (h : (nums n)[i]? = some x) : i < n ∧ x = pl i := by
  unfold nums at h
  rw [List.getElem?_map] at h
  obtain ⟨k, hk, rfl⟩ := Option.map_eq_some_iff.mp h
  obtain ⟨h1, h2⟩ := List.getElem?_eq_some_iff.mp hk
  rw [List.length_range] at h1
  rw [List.getElem_range] at h2
  exact ⟨h1, by rw [h2]⟩
end
end G
namespace G
open PySem PySem.Spec PyProof.Rows L2 U V
end G
namespace GO
open G
open PySem PySem.Spec PyProof.Rows L2 U
section
variable {P : Program} {w : World} {K : PySem.W.Frag} {mg : Str → Option Value} {base : Heap}
theorem ok1__law_draw (T : Tx K mg) : FnOk P w K mg base L2.CX0 lv__law_draw T.f__law_draw T.d__law_draw p__law_draw spDraw1 := by
  refine T.F__law_draw.ok sc__law_draw (fun vs H Q E h => ?_) (fun cdv A outer s H vs Q E hr h => ?_)
  · obtain ⟨p, n, a, b, c, rfl, _⟩ := h
    rfl
  · obtain ⟨p, n, a, b, c, rfl, hp, ⟨hn, hn2⟩, q⟩ := h
    refine ⟨_, (pss_cons (ps_asg (pe_op op_addU (pe_ix (ix_K (K := K) rfl) (pv 0) pe_int (fun _ _ => rfl)) pe_int) (pg_sub (pv 0) pe_int set_list))
        (pss_cons (ps_if (pt_cmpR op_gt (pe_ix (ix_K (K := K) rfl) (pv 0) pe_int (fun _ _ => rfl)) pe_int (nomark _)) (pss_cons (ps_asg (pe_callB call_divmod (by rfl) T.n_divmod (by decide +kernel) (pa_cons (pe_ix (ix_K (K := K) rfl) (pv 0) pe_int (fun _ _ => rfl)) (pa_cons (pv 1) pa_nil))) (pg_tupK (K := K) (n := 2) rfl rfl (pgs_cons (pg_sub (pv 0) pe_int set_list) (pgs_cons (pg_name (i := 2) sc__law_draw.nd rfl (by first | exact Or.inl rfl | exact Or.inr rfl)) pgs_nil))))
        (pss_one (ps_ret (pv 2)))) pss_nil)
        (pss_cons (ps_set (i := 3) sc__law_draw.nd rfl (by first | exact Or.inl rfl | exact Or.inr rfl) (pe_callTy call_intU (by rfl) T.n_int (by decide +kernel) (pa_cons (pe_ix (ix_K (K := K) rfl) (pv 0) pe_int (fun _ _ => rfl)) pa_nil)))
        (pss_cons (ps_set (i := 4) sc__law_draw.nd rfl (by first | exact Or.inl rfl | exact Or.inr rfl) (pe_op op_addU (pe_op op_mod (pe_callTy call_intU (by rfl) T.n_int (by decide +kernel) (pa_cons (pv 3) pa_nil)) pe_int) pe_int))
        (pss_cons (ps_asg (pe_op op_mod (pe_callTy call_intU (by rfl) T.n_int (by decide +kernel) (pa_cons (pe_op op_addU (pe_op op_addU (pe_op op_mul (pv 3) (pv 4)) (pe_op op_mul pe_int (pe_ix (ix_K (K := K) rfl) (pv 0) pe_int (fun _ _ => rfl)))) pe_int) pa_nil)) pe_int) (pg_sub (pv 0) pe_int set_list))
        (pss_one (ps_ret (pe_op op_mod (pe_op op_fdiv (pe_callTy call_intU (by rfl) T.n_int (by decide +kernel) (pa_cons (pe_ix (ix_K (K := K) rfl) (pv 0) pe_int (fun _ _ => rfl)) pa_nil)) pe_int) (pv 1))))))))), ?_⟩
    walk_at "lx"
    refine ixL hp rfl (adI ?_)
    refine ⟨p, _, 2, 2, rfl, rfl, hp, rfl, ?_⟩
    have e1 : ([V.int a, V.int b, V.int c] : List V).set 2 (V.int (c + 1)) = [.int a, .int b, .int (c + 1)] := rfl
    rw [e1]
    refine ixL upd_same rfl ?_
    walk_at "lx"
    refine ite2 (fun ca => ?_) (fun ca => ?_)
    · refine ixL upd_same rfl ?_
      refine ⟨_, _, rfl, ⟨hn, hn2⟩, fun t ht => ?_⟩
      have npt : p ≠ t := ne_of_none upd_same ht
      refine ⟨_, SqT.of upd_same, rfl, ?_⟩
      walk_at "go"
      refine ⟨p, _, 0, 0, rfl, rfl, (by rw [upd_ne npt]; exact upd_same), rfl, ?_⟩
      rw [upd_ne npt.symm] at ht
      refine q _ _ _ _ _ ?_ upd_same (Int.emod_nonneg _ (by omega)) (Int.emod_lt_of_pos _ hn)
      refine Ext.mut (Ext.new (Ext.mut (Ext.refl _) rfl) ?_) rfl
      rw [upd_ne npt.symm]
      exact ht
    · refine ixL upd_same rfl ?_
      walk_at "lx"
      have h1 := Int.emod_nonneg b (show (9973 : Int) ≠ 0 by decide)
      have h2 := Int.emod_lt_of_pos b (show (0 : Int) < 9973 by decide)
      refine ⟨by decide, adI ⟨_, _, rfl, rfl, .inr ⟨by omega, by omega⟩, ixL upd_same rfl ⟨_, _, rfl, rfl, .inl ⟨by decide, by decide⟩, adI (adI ?_)⟩⟩⟩
      walk_at "lx"
      refine ⟨by decide, ?_⟩
      refine ⟨p, _, 1, 1, rfl, rfl, upd_same, rfl, ?_⟩
      refine ixL upd_same rfl ?_
      walk_at "lx"
      refine ⟨⟨by decide, by decide⟩, hn, ?_⟩
      refine q _ _ _ _ _ ?_ upd_same (Int.emod_nonneg _ (by omega)) (Int.emod_lt_of_pos _ hn)
      exact Ext.mut (Ext.mut (Ext.refl _) rfl) rfl
theorem ok__law_draw (T : Tx K mg) : FnOk P w K mg base L2.CX0 lv__law_draw T.f__law_draw T.d__law_draw p__law_draw spDraw := fn_draw (ok1__law_draw T) rfl
theorem ok1__law_source (T : Tx K mg) : FnOk P w K mg base L2.CX0 lv__law_source T.f__law_source T.d__law_source p__law_source (spPot1 K) := by
  refine T.F__law_source.ok sc__law_source (fun vs H Q E h => ?_) (fun cdv A outer s H vs Q E hr h => ?_)
  · obtain ⟨a, ns, i, rfl, _⟩ := h
    rfl
  · obtain ⟨a, ns, i, rfl, hS, hn, hi, q⟩ := h
    refine ⟨_, (pss_cons (ps_set (i := 2) sc__law_source.nd rfl (by first | exact Or.inl rfl | exact Or.inr rfl) (pe_op op_addU pe_int (pe_op op_mul pe_int (pv 1))))
        (pss_cons (ps_for PassesOwn.never rfl (pi_listK (K := K) rfl (pe_slice (sl_K (K := K) rfl) (pv 0) po_none (po_some pe_int))) (pg_name (i := 3) sc__law_source.nd rfl (by first | exact Or.inl rfl | exact Or.inr rfl)) (pss_one (ps_set (i := 2) sc__law_source.nd rfl (by first | exact Or.inl rfl | exact Or.inr rfl) (pe_op op_mod (pe_callTy call_intU (by rfl) T.n_int (by decide +kernel) (pa_cons (pe_op op_addU (pe_op op_mul (pv 2) pe_int) (pv 3)) pa_nil)) pe_int))))
        (pss_cons (ps_set (i := 4) sc__law_source.nd rfl (by first | exact Or.inl rfl | exact Or.inr rfl) (pe_ifExp (pt_cmpR op_ltU (pv 1) (pe_callB (call_lenK (K := K) rfl) (by rfl) T.n_len (by decide +kernel) (pa_cons (pv 0) pa_nil)) (nomark _)) (pe_ix (ix_K (K := K) rfl) (pv 0) (pv 1) (fun _ _ => rfl)) (pv 2)))
        (pss_cons (ps_set (i := 2) sc__law_source.nd rfl (by first | exact Or.inl rfl | exact Or.inr rfl) (pe_op op_mod (pe_callTy call_intU (by rfl) T.n_int (by decide +kernel) (pa_cons (pe_op op_addU (pe_op op_mul (pv 2) pe_int) (pv 4)) pa_nil)) pe_int))
        (pss_one (ps_ret (pe_lst (pa_cons (pe_ifExp (pt_cmpR op_ge (pe_callB call_absU (by rfl) T.n_abs (by decide +kernel) (pa_cons (pv 4) pa_nil)) (pe_op op_pow pe_int pe_int) (nomark _)) (pe_callB call_absU (by rfl) T.n_abs (by decide +kernel) (pa_cons (pv 4) pa_nil)) pe_int) (pa_cons (pv 2) (pa_cons pe_int pa_nil)))))))))), ?_⟩
    walk_at "lx"
    refine ⟨.inl ⟨by decide, by decide⟩, adI ⟨_, sli_l hS, fun p1 np1 => ?_⟩⟩
    have e6 : cutV (ns.map V.int) none (some 6) = (ns.take 6).map V.int := by rw [List.map_take]; exact cutV_to _ 6
    rw [e6]
    have s1 := Same.new (o := .lst ((ns.take 6).map V.int)) np1
    refine forL (S := N0) upd_same (fun z => z) (fun j σ H' => Same H H' ∧ Ext N0 (upd H p1 (.lst ((ns.take 6).map V.int))) H' ∧ ∃ m u1 u2, σ = [some (.ref a), some (.int i), some (.int m), u1, u2]) ⟨s1, Ext.refl _, _, _, _, rfl⟩ (fun j σ' H' hI => hI.2.1) ?_ ?_
    · rintro j x σ' H' hx ⟨hS1, hE, m, u1, u2, rfl⟩
      rw [List.getElem?_map] at hx
      obtain ⟨z, _, rfl⟩ := Option.map_eq_some_iff.mp hx
      walk_at "lx"
      refine ⟨.inr ⟨by decide, by decide⟩, adI ?_⟩
      walk_at "lx"
      exact ⟨by decide, hS1, hE, _, _, _, rfl⟩
    · rintro σ' H' ⟨hS1, hE, m, u1, u2, rfl⟩
      have hS2 : SqL K H' a (ns.map V.int) := sql_sm hS hS1
      walk_at "lx"
      refine ⟨_, .inl hS2, ?_⟩
      rw [List.length_map]
      refine ite2 (fun c => ?_) (fun c => ?_)
      · have hz : ns[i]? = some ns[i] := by simp [show i < ns.length by omega]
        refine ⟨_, .int ns[i], .inl hS2, atI_nat (by rw [List.getElem?_map, hz]; rfl), ⟨.inr ⟨by decide, by decide⟩, adI ?_⟩⟩
        walk_at "lx"
        refine ⟨by decide, ⟨by decide, by decide, by decide⟩, ite2 (fun c2 => ⟨by decide, fun p hp => ?_⟩) (fun c2 => ⟨by decide, fun p hp => ?_⟩)⟩
        · exact q p _ _ _ _ (Same.snew hS1 hp) (Same.free hS1 hp) upd_same
        · exact q p _ _ _ _ (Same.snew hS1 hp) (Same.free hS1 hp) upd_same
      · refine ⟨.inr ⟨by decide, by decide⟩, adI ?_⟩
        walk_at "lx"
        refine ⟨by decide, ⟨by decide, by decide, by decide⟩, ite2 (fun c2 => ⟨by decide, fun p hp => ?_⟩) (fun c2 => ⟨by decide, fun p hp => ?_⟩)⟩
        · exact q p _ _ _ _ (Same.snew hS1 hp) (Same.free hS1 hp) upd_same
        · exact q p _ _ _ _ (Same.snew hS1 hp) (Same.free hS1 hp) upd_same
/-- a stem: some signs, at least one -/
def spStem : Sp := fun vs H Q _ => ∃ (p : Addr) (n : Nat), vs = [.ref p, .int n] ∧ Pot H p ∧ 0 < n ∧ n ≤ 20 ∧ ∀ z H', Same H H' → okText n z = true → Q (.str z) H'
theorem ok__law_stem (T : Tx K mg) : FnOk P w K mg base L2.CX0 lv__law_stem T.f__law_stem T.d__law_stem p__law_stem spStem := by
  refine T.F__law_stem.ok sc__law_stem (fun vs H Q E h => ?_) (fun cdv A outer s H vs Q E hr h => ?_)
  · obtain ⟨p, n, rfl, _⟩ := h
    rfl
  · obtain ⟨p, n, rfl, hp, hn0, hn, q⟩ := h
    refine ⟨_, (pss_cons (ps_set (i := 2) sc__law_stem.nd rfl (by first | exact Or.inl rfl | exact Or.inr rfl) pe_str)
        (pss_one (ps_ret (pe_joinK (K := K) rfl pe_str (pe_lc (own := [("_law_k", 3)]) rfl sc__law_stem.nd (pi_range1 rfl T.n_range (pa_cons (pe_op op_addU pe_int (pe_call (ok__law_draw T) (hr.mono (by decide)) rfl T.m__law_draw T.F__law_draw.kp T.b__law_draw .nil pass0 (pa_cons (pv 0) (pa_cons (pv 1) pa_nil)))) pa_nil)) (blkOk_by (N := ["_law_source_here", "_law_size", "_law_abc", "_law_k"]) (sc := L2.defScope s__law_stem) (by decide +kernel)) (fun _ _ _ _ _ => (pg_name (i := 3) sc__law_stem.nd rfl (by first | exact Or.inl rfl | exact Or.inr rfl))) (fun _ _ _ _ _ => pts_nil) (fun _ _ _ _ _ => (pe_ix (ix_K (K := K) rfl) (pv 2) (pe_call (ok__law_draw T) (hr.mono (by decide)) rfl T.m__law_draw T.F__law_draw.kp T.b__law_draw .nil pass0 (pa_cons (pv 0) (pa_cons pe_int pa_nil))) (fun _ _ => rfl)))))))), ?_⟩
    walk_at "lx"
    refine ⟨⟨_, rfl⟩, ?_⟩
    refine ⟨p, n, rfl, hp, ⟨by omega, by omega⟩, fun r H1 S1 hr0 hr1 => adI ?_⟩
    obtain ⟨r, rfl⟩ := Int.eq_ofNat_of_zero_le hr0
    have hp1 := hp.sm S1
    refine lcR (by omega) (by omega) (fun i ds => ∃ l : List Nat, ds = l.map sgn ∧ l.length = i ∧ ∀ c ∈ l, c ∈ U.signs) ⟨[], rfl, rfl, fun _ h => by cases h⟩ ?_ ?_
    · rintro D0 hD i ds H' hi ⟨l, rfl, hl, hok⟩ hE x H2 ⟨rfl, rfl⟩ Ky Kn hy hn
      walk_at "lx"
      have hp2 : Pot H2 p := hp1.go hE (ne_fresh hp1 hD)
      refine ⟨p, _, rfl, hp2, ⟨by decide, by decide⟩, fun j H3 S3 hj0 hj1 => ?_⟩
      obtain ⟨j, rfl⟩ := Int.eq_ofNat_of_zero_le hj0
      have hj : j < 38 := by omega
      have hc : ∀ j, j < 38 → ∃ c, (cd (Str.ofString ".0123456789abcdefghijklmnopqrstuvwxyz~"))[j]? = some c ∧ c ∈ U.signs := by
        intro j hj
        have : ∀ j, j < 38 → ((cd (Str.ofString ".0123456789abcdefghijklmnopqrstuvwxyz~"))[j]?.map fun c => decide (c ∈ U.signs)) = some true := by decide +kernel
        obtain ⟨c, hc, h2⟩ := Option.map_eq_some_iff.mp (this j hj)
        exact ⟨c, hc, of_decide_eq_true h2⟩
      obtain ⟨c, hc, hcs⟩ := hc j hj
      refine ixS (by decide +kernel) (c := c) hc (by omega) ?_
      refine hy _ _ (sgn c) S3 (.str _) rfl ⟨l ++ [c], by rw [List.map_append]; rfl, by rw [List.length_append, hl]; rfl, fun t ht => ?_⟩
      rcases List.mem_append.mp ht with z | z
      · exact hok t z
      · rw [List.mem_singleton.mp z]
        exact hcs
    · rintro D0 hD H' ds ⟨l, rfl, hl, hok⟩ hlen S3 hv3
      obtain ⟨p3, xs3, e0, _, hp3, hs3⟩ := dt_lst hv3
      cases e0
      have e : l.map sgn = (l.map one).map D.str := by rw [List.map_map]; rfl
      rw [e] at hs3
      have e3 := hs3.strs_eq
      subst e3
      rw [List.map_map] at hp3
      refine joinL hp3 (by omega) (q _ _ (S1.trans S3) (okText_iff.mpr ⟨?_, by rw [cd_ofL]; exact hok⟩))
      rw [← cd_len, cd_ofL]
      omega
end
end GO
namespace GO
open G
open PySem PySem.Spec PyProof.Rows L2 U
section
variable {P : Program} {w : World} {K : PySem.W.Frag} {mg : Str → Option Value} {base : Heap}
/-- is_text(v, n): of a text, of anything else -/
def spIsText (K : PySem.W.Frag) : Sp := fun vs H Q _ => ∃ (v : V) (n : Nat), vs = [v, .int n] ∧
  ((∃ z, v = .str z ∧ z.length ≤ 16777216 ∧ ∀ H', Same H H' → Q (.bl (okText n z)) H') ∨ ∃ t : String, TyX K H v (.type t) ∧ t ∈ ["NoneType", "bool", "int", "list", "tuple", "dict"] ∧ Q (.bl false) H)
theorem ok_is_text (T : Tx K mg) : FnOk P w K mg base L2.CX0 lv_is_text T.f_is_text T.d_is_text p_is_text (spIsText K) := by
  refine T.F_is_text.ok sc_is_text (fun vs H Q E h => ?_) (fun cdv A outer s H vs Q E hr h => ?_)
  · obtain ⟨v, n, rfl, _⟩ := h
    rfl
  · obtain ⟨v, n, rfl, h⟩ := h
    refine ⟨_, (pss_one (ps_ret (pe_and (pe_callB (call_isiK (K := K) rfl) (by rfl) T.n_isinstance (by decide +kernel) (pa_cons (pv 0) (pa_cons (pe_bt "str" rfl T.n_str (by decide +kernel)) pa_nil))) (pe_and (pe_cmpR op_le (pe_callB (call_lenK (K := K) rfl) (by rfl) T.n_len (by decide +kernel) (pa_cons (pv 0) pa_nil)) (pv 1) (nomark _)) (pe_one (pe_callB (cr_allK (K := K) rfl rfl) (by rfl) T.n_all (by decide +kernel) (pa_cons (pe_lc (own := [("sign", 2)]) rfl sc_is_text.nd (pi_str (pv 0)) (blkOk_by (N := ["value", "most", "sign"]) (sc := L2.defScope s_is_text) (by decide +kernel)) (fun _ _ _ _ _ => (pg_name (i := 2) sc_is_text.nd rfl (by first | exact Or.inl rfl | exact Or.inr rfl))) (fun _ _ _ _ _ => pts_nil) (fun _ _ _ _ _ => (pe_cmpR (op_inK (K := K) rfl) (pv 2) (C8.pe_gc rfl T.k_SIGNS) (by rfl)))) pa_nil))))))), ?_⟩
    walk_at "go"
    rcases h with ⟨z, rfl, hz, q⟩ | ⟨t, ty, ht, q⟩
    · refine ⟨_, _, _, _, true, rfl, .ty _, .base (.str _), kit_ty (by decide +kernel), _, rfl, iteT ?_⟩
      walk_at "go"
      refine ⟨Nat.le_trans hz (by decide), ?_⟩
      refine ite2 (fun c => ?_) (fun c => ?_)
      · refine lcS hz (fun i ds => ds = ((cd z).take i).map fun c => D.bl (isSign c)) (by simp) ?_ ?_
        · rintro D0 hD i ds H' hi rfl hE x H2 ⟨rfl, c, hc, rfl⟩ Ky Kn hy hn
          walk_at "go"
          refine ⟨c, rfl, hy _ _ _ (Same.refl _) (.bl _) rfl ?_⟩
          exact take_map (fun c => D.bl (isSign c)) (cd_get hc)
        · intro D0 hD H' ds hds hl hS hdt
          subst hds
          cases hdt with
          | lst _ ha hs =>
            rw [cd_size, List.take_length] at hs
            have e : (cd z).map (fun c => D.bl (isSign c)) = ((cd z).map isSign).map D.bl := by rw [List.map_map]; rfl
            rw [e] at hs
            have e2 := hs.bls_eq
            subst e2
            refine ⟨D0, _, rfl, SqL.of ha, ?_⟩
            have e3 : ((cd z).map isSign).all id = okText n z := by
              unfold okText
              have c' : z.length ≤ n := by exact_mod_cast c
              rw [decide_eq_true c', List.all_map]
              rfl
            rw [e3]
            exact q _ hS
      · have e3 : okText n z = false := by
          unfold okText
          have c' : ¬ z.length ≤ n := fun z => c (by exact_mod_cast z)
          rw [decide_eq_false c', Bool.false_and]
        rw [← e3]
        exact q _ (Same.refl _)
    · simp only [List.mem_cons, List.not_mem_nil, or_false] at ht
      rcases ht with rfl | rfl | rfl | rfl | rfl | rfl
      · exact ⟨_, _, _, _, false, rfl, .ty _, ty, kit_ty (by decide +kernel), _, rfl, iteF q⟩
      · exact ⟨_, _, _, _, false, rfl, .ty _, ty, kit_ty (by decide +kernel), _, rfl, iteF q⟩
      · exact ⟨_, _, _, _, false, rfl, .ty _, ty, kit_ty (by decide +kernel), _, rfl, iteF q⟩
      · exact ⟨_, _, _, _, false, rfl, .ty _, ty, kit_ty (by decide +kernel), _, rfl, iteF q⟩
      · exact ⟨_, _, _, _, false, rfl, .ty _, ty, kit_ty (by decide +kernel), _, rfl, iteF q⟩
      · exact ⟨_, _, _, _, false, rfl, .ty _, ty, kit_ty (by decide +kernel), _, rfl, iteF q⟩
end
end GO
namespace GO
open G
open PySem PySem.Spec PyProof.Rows L2 U
section
variable {P : Program} {w : World} {K : PySem.W.Frag} {mg : Str → Option Value} {base : Heap}
def spBaseOf (C : Addr) : Sp := fun vs H Q _ => ∃ (v : V) (t : Str) (r : Ru) (wd : Nat), vs = [v, .str t] ∧ Dt N0 H v (namerD C r wd) ∧ t.length ≤ 4000000 ∧ Q (.str (tkS wd t)) H
theorem ok_Namer_base_of (T : Tx K mg) : FnOk P w K mg base L2.CX0 lv_Namer_base_of T.f_Namer_base_of T.d_Namer_base_of p_Namer_base_of (spBaseOf T.C_Namer) := by
  refine T.F_Namer_base_of.ok sc_Namer_base_of (fun vs H Q E h => ?_) (fun cdv A outer s H vs Q E hr h => ?_)
  · obtain ⟨v, t, r, wd, rfl, _⟩ := h
    rfl
  · obtain ⟨v, t, r, wd, rfl, hv, ht, q⟩ := h
    obtain ⟨a, dx, rfl, _, ha⟩ := nmF hv
    refine ⟨_, (pss_one (ps_ret (pe_slice (sl_K (K := K) rfl) (pv 1) po_none (po_some (pe_fldK (K := K) rfl (pv 0)))))), ?_⟩
    walk_at "lx"
    refine ⟨_, dx, _, ha, T.c_Namer, T.na_Namer_width, _, rfl, _, rfl, by rw [sizeLine_eq]; omega, ?_⟩
    rw [cutS_to]
    exact q
def spNumbered (C : Addr) : Sp := fun vs H Q _ => ∃ (v : V) (b : Str) (n : Nat) (r : Ru) (wd : Nat), vs = [v, .str b, .int n] ∧ Dt N0 H v (namerD C r wd) ∧ 6 ≤ wd ∧ b.length ≤ 4000000 ∧ n ≤ 9 ∧ Q (.str (numS r wd b n)) H
theorem ok_Namer_numbered (T : Tx K mg) : FnOk P w K mg base L2.CX0 lv_Namer_numbered T.f_Namer_numbered T.d_Namer_numbered p_Namer_numbered (spNumbered T.C_Namer) := by
  refine T.F_Namer_numbered.ok sc_Namer_numbered (fun vs H Q E h => ?_) (fun cdv A outer s H vs Q E hr h => ?_)
  · obtain ⟨v, b, n, r, wd, rfl, _⟩ := h
    rfl
  · obtain ⟨v, b, n, r, wd, rfl, hv, h6, hb, hn, q⟩ := h
    obtain ⟨a, dx, rfl, _, ha⟩ := nmF hv
    have hr64 := hr.units
    refine ⟨_, (pss_cons (ps_set (i := 3) sc_Namer_numbered.nd rfl (by first | exact Or.inl rfl | exact Or.inr rfl) (pe_joined (.cons pe_str (.cons (pe_fmt (pv 2)) .nil))))
        (pss_cons (ps_if (pt_cmpR (op_eqK (K := K) rfl hr64) (pe_fldK (K := K) rfl (pv 0)) pe_str (nomark _)) (pss_one (ps_set (i := 1) sc_Namer_numbered.nd rfl (by first | exact Or.inl rfl | exact Or.inr rfl) (pe_slice (sl_K (K := K) rfl) (pv 1) po_none (po_some (pe_op op_sub (pe_fldK (K := K) rfl (pv 0)) (pe_callB (call_lenK (K := K) rfl) (by rfl) T.n_len (by decide +kernel) (pa_cons (pv 3) pa_nil))))))) pss_nil)
        (pss_one (ps_ret (pe_op op_addU (pv 1) (pv 3)))))), ?_⟩
    walk_at "ly"
    refine fs_til rfl hn ?_
    have tl := til_len n hn
    refine fldC ha T.c_Namer T.na_Namer_rule rfl (eqS ?_)
    walk_at "ly"
    refine ite2 (fun c => ?_) (fun c => ?_)
    · refine fldC ha T.c_Namer T.na_Namer_width rfl (lenS (by omega) ⟨_, _, rfl, rfl, ?_⟩)
      cases r with
      | tight =>
        refine ⟨_, rfl, by rw [sizeLine_eq]; omega, ?_⟩
        rw [tl, show ((wd : Int) - ((2 : Nat) : Int)) = ((wd - 2 : Nat) : Int) by omega, cutS_to]
        refine adS ?_ q
        show (tkS (wd - 2) b).length + _ ≤ _
        rw [tkS_len, sizeLine_eq]
        omega
      | count => exact absurd c (by decide +kernel)
      | free => exact absurd c (by decide +kernel)
    · refine adS (by rw [sizeLine_eq]; omega) ?_
      cases r with
      | tight => exact absurd rfl c
      | count => exact q
      | free => exact q
def spNameFor (C : Addr) : Sp := fun vs H Q _ => ∃ (v th : V) (t : Str) (r : Ru) (wd : Nat) (l : List (Str × Str)), vs = [v, .str t, th] ∧ Dt N0 H v (namerD C r wd) ∧ 6 ≤ wd ∧ wd ≤ 40 ∧ okText 200 t = true ∧ Dt N0 H th (.lst (l.map pD)) ∧ l.length ≤ 7 ∧ (∀ p ∈ l, okText 200 p.1 = true ∧ okText 42 p.2 = true) ∧ ∀ H', Same H H' → Q (.str (nameF r wd t l)) H'
theorem ok_Namer_name_for (T : Tx K mg) : FnOk P w K mg base L2.CX0 lv_Namer_name_for T.f_Namer_name_for T.d_Namer_name_for p_Namer_name_for (spNameFor T.C_Namer) := by
  refine T.F_Namer_name_for.ok sc_Namer_name_for (fun vs H Q E h => ?_) (fun cdv A outer s H vs Q E hr h => ?_)
  · obtain ⟨v, th, t, r, wd, l, rfl, _⟩ := h
    rfl
  · obtain ⟨v, th, t, r, wd, l, rfl, hv, h6, h40, ht, hth, hl, hok, q⟩ := h
    obtain ⟨a, dx, rfl, _, ha⟩ := nmF hv
    have hr64 := hr.units
    refine ⟨_, (pss_cons (ps_set (i := 3) sc_Namer_name_for.nd rfl (by first | exact Or.inl rfl | exact Or.inr rfl) (pe_meth (pv 0) T.c_Namer T.t_Namer_base_of (ok_Namer_base_of T) (hr.mono (by decide)) T.b_Namer_base_of .nil pass0 (pa_cons (pv 1) pa_nil)))
        (pss_cons (ps_if (pt_cmpR (op_eqK (K := K) rfl hr64) (pe_fldK (K := K) rfl (pv 0)) pe_str (nomark _)) (pss_cons (ps_setLc (i := 4) (own := [("mate", 7), ("name", 8)]) rfl sc_Namer_name_for.nd rfl rfl (sw_true rfl rfl rfl (by decide +kernel)) (pi_listK (K := K) rfl (pv 2)) (blkOk_by (N := ["self", "text", "there", "base", "alike", "taken", "number", "mate", "name"]) (sc := L2.defScope s_Namer_name_for) (by decide +kernel)) (fun _ _ _ _ _ => (pg_tupK (K := K) (n := 2) rfl rfl (pgs_cons (pg_name (i := 7) sc_Namer_name_for.nd rfl (by first | exact Or.inl rfl | exact Or.inr rfl)) (pgs_cons (pg_name (i := 8) sc_Namer_name_for.nd rfl (by first | exact Or.inl rfl | exact Or.inr rfl)) pgs_nil)))) (fun _ _ _ _ _ => (pts_one (pt_cmpR (op_eqK (K := K) rfl hr64) (pe_meth (pv 0) T.c_Namer T.t_Namer_base_of (ok_Namer_base_of T) (hr.mono (by decide)) T.b_Namer_base_of .nil pass0 (pa_cons (pv 7) pa_nil)) (pv 3) (nomark _)))) (fun _ _ _ _ _ => (pv 7)))
        (pss_one (ps_ret (pe_ifExp (pt_cmpR (op_eqK (K := K) rfl hr64) (pe_callB (call_lenK (K := K) rfl) (by rfl) T.n_len (by decide +kernel) (pa_cons (pv 4) pa_nil)) pe_int (nomark _)) (pv 3) (pe_meth (pv 0) T.c_Namer T.t_Namer_numbered (ok_Namer_numbered T) (hr.mono (by decide)) T.b_Namer_numbered .nil pass0 (pa_cons (pv 3) (pa_cons (pe_op op_addU (pe_callB (call_lenK (K := K) rfl) (by rfl) T.n_len (by decide +kernel) (pa_cons (pv 4) pa_nil)) pe_int) pa_nil))))))) pss_nil)
        (pss_cons (ps_setLc (i := 5) (own := [("mate", 7), ("name", 8)]) rfl sc_Namer_name_for.nd rfl rfl (sw_true rfl rfl rfl (by decide +kernel)) (pi_listK (K := K) rfl (pv 2)) (blkOk_by (N := ["self", "text", "there", "base", "alike", "taken", "number", "mate", "name"]) (sc := L2.defScope s_Namer_name_for) (by decide +kernel)) (fun _ _ _ _ _ => (pg_tupK (K := K) (n := 2) rfl rfl (pgs_cons (pg_name (i := 7) sc_Namer_name_for.nd rfl (by first | exact Or.inl rfl | exact Or.inr rfl)) (pgs_cons (pg_name (i := 8) sc_Namer_name_for.nd rfl (by first | exact Or.inl rfl | exact Or.inr rfl)) pgs_nil)))) (fun _ _ _ _ _ => pts_nil) (fun _ _ _ _ _ => (pv 8)))
        (pss_cons (ps_if (pt_cmpR (op_ninK (K := K) rfl) (pv 3) (pv 5) (by rfl)) (pss_one (ps_ret (pv 3))) pss_nil)
        (pss_cons (ps_set (i := 6) sc_Namer_name_for.nd rfl (by first | exact Or.inl rfl | exact Or.inr rfl) (C8.pe_gc rfl T.k_FIRST_NUMBER))
        (pss_cons (ps_while PassesOwn.never (pt_cmpR (op_inK (K := K) rfl) (pe_meth (pv 0) T.c_Namer T.t_Namer_numbered (ok_Namer_numbered T) (hr.mono (by decide)) T.b_Namer_numbered .nil pass0 (pa_cons (pv 3) (pa_cons (pv 6) pa_nil))) (pv 5) (by rfl)) (pss_one (ps_aug (i := 6) sc_Namer_name_for.nd rfl (by first | exact Or.inl rfl | exact Or.inr rfl) pe_int ip_add)))
        (pss_one (ps_ret (pe_meth (pv 0) T.c_Namer T.t_Namer_numbered (ok_Namer_numbered T) (hr.mono (by decide)) T.b_Namer_numbered .nil pass0 (pa_cons (pv 3) (pa_cons (pv 6) pa_nil))))))))))), ?_⟩
    walk_at "ly"
    have hz := (okText_iff.mp ht).1
    obtain ⟨p, xs, rfl, _, hp, hs⟩ := dt_lst hth
    have el := hs.length
    rw [List.length_map] at el
    refine ⟨_, _, ha, rfl, _, _, r, wd, rfl, hv, by omega, ?_⟩
    have bo : okText 40 (tkS wd t) = true := ok_mono (tkS_ok ht) (by omega)
    refine fldC ha T.c_Namer T.na_Namer_rule rfl (eqS ?_)
    walk_at "ly"
    refine ite2 (fun c => ?_) (fun c => ?_)
    · refine lcL hp (by omega) (fun i ds => ds = ((l.take i).filter fun p => decide (tkS wd p.1 = tkS wd t)).map fun p => D.str p.1) rfl ?_ ?_
      · rintro D0 hD i ds H' hi rfl hE x H2 ⟨rfl, hx⟩ Ky Kn hy hn
        obtain ⟨d, hd, hdx⟩ := hs.getV hx
        rw [List.getElem?_map] at hd
        obtain ⟨pr, hpr, rfl⟩ := Option.map_eq_some_iff.mp hd
        obtain ⟨b, rfl, _, hb⟩ := dt_pD hdx
        have ha2 := hE _ _ (ne_fresh ha hD) ha
        have hv2 := hv.sm (hE.same hD)
        have hpo := hok pr (List.mem_of_getElem? hpr)
        have hpl := (okText_iff.mp hpo.1).1
        walk_at "ly"
        refine ⟨_, SqT.of (hE.same hD _ _ hb), rfl, ?_⟩
        walk_at "ly"
        refine ⟨_, _, ha2, rfl, _, _, r, wd, rfl, hv2, by omega, eqS ?_⟩
        walk_at "ly"
        have e := filter_snoc (p := fun p : Str × Str => decide (tkS wd p.1 = tkS wd t)) hpr
        refine ite2 (fun c2 => ?_) (fun c2 => ?_)
        · refine hy _ _ (.str pr.1) (Same.refl _) (.str _) rfl ?_
          show _ = List.map _ _
          rw [e, if_pos (decide_eq_true c2), List.map_append]
          rfl
        · refine hn _ (Same.refl _) ?_
          show _ = List.map _ _
          rw [e, if_neg (by simpa using c2), List.append_nil]
      · rintro D0 hD H' ds rfl hl2 hS hv2
        obtain ⟨p3, xs3, e0, _, hp3, hs3⟩ := dt_lst hv2
        cases e0
        have l3 := hs3.length
        rw [el, List.take_length, List.length_map] at l3
        have hf := List.length_filter_le (fun p : Str × Str => decide (tkS wd p.1 = tkS wd t)) l
        refine lenL hp3 (eqI ?_)
        have hr : r = .count := by
          cases r with
          | count => rfl
          | free => exact absurd c (by decide +kernel)
          | tight => exact absurd c (by decide +kernel)
        have qn := q _ hS
        subst hr
        unfold nameF at qn
        walk_at "ly"
        refine ite2 (fun c2 => ?_) (fun c2 => ?_)
        · rw [if_pos (by omega)] at qn
          exact qn
        · rw [if_neg (by omega)] at qn
          refine ⟨_, _, hS _ _ ha, rfl, lenL hp3 (adI ?_)⟩
          refine ⟨_, _, xs3.length + 1, .count, wd, rfl, hv.sm hS, h6, by have := (okText_iff.mp bo).1; omega, by omega, ?_⟩
          rw [l3]
          exact qn
    · refine lcL hp (by omega) (fun i ds => ds = ((l.take i).map (·.2)).map D.str) rfl ?_ ?_
      · rintro D0 hD i ds H' hi rfl hE x H2 ⟨rfl, hx⟩ Ky Kn hy hn
        obtain ⟨d, hd, hdx⟩ := hs.getV hx
        rw [List.getElem?_map] at hd
        obtain ⟨pr, hpr, rfl⟩ := Option.map_eq_some_iff.mp hd
        obtain ⟨b, rfl, _, hb⟩ := dt_pD hdx
        walk_at "ly"
        refine ⟨_, SqT.of (hE.same hD _ _ hb), rfl, ?_⟩
        walk_at "ly"
        refine hy _ _ (.str pr.2) (Same.refl _) (.str _) rfl ?_
        show _ = List.map _ (List.map _ _)
        rw [take_snoc hpr, List.map_append, List.map_append]
        rfl
      · rintro D0 hD H' ds rfl hl2 hS hv2
        obtain ⟨p3, xs3, e0, _, hp3, hs3⟩ := dt_lst hv2
        cases e0
        rw [el, List.take_length] at hs3
        have e3 := hs3.strs_eq
        subst e3
        refine ninL hp3 ?_
        have hr : ∀ H', Same H H' → Q (.str (if tkS wd t ∈ l.map (·.2) then numS r wd (tkS wd t) (nextN (l.map (·.2)) (numS r wd (tkS wd t)) l.length 2) else tkS wd t)) H' := by
          intro H' hS
          have qn := q H' hS
          unfold nameF at qn
          cases r with
          | count => exact absurd rfl c
          | free => exact qn
          | tight => exact qn
        walk_at "ly"
        refine ite2 (fun c2 => ?_) (fun c2 => ?_)
        · have qn := hr _ hS
          rw [if_neg c2] at qn
          exact qn
        · have c2 := Decidable.not_not.mp c2
          refine ⟨fun m σ H2 => ∃ n : Nat, m = l.length + 2 - n ∧ 2 ≤ n ∧ n ≤ l.length + 2 ∧ Same H' H2 ∧ σ = [some (.ref a), some (.str t), some (.ref p), some (.str (tkS wd t)), none, some (.ref D0), some (.int n), none, none] ∧ ∀ j, 2 ≤ j → j < n → numS r wd (tkS wd t) j ∈ l.map (·.2),
            ⟨_, 2, rfl, by omega, by omega, Same.refl _, rfl, fun j h1 h2 => by omega⟩, ?_⟩
          rintro m σ H2 ⟨n, rfl, n2, nl, S2, rfl, hj⟩
          have S3 := hS.trans S2
          walk_at "ly"
          refine ⟨_, _, S3 _ _ ha, rfl, _, _, n, r, wd, rfl, hv.sm S3, h6, by have := (okText_iff.mp bo).1; omega, by omega, inL (S2 _ _ hp3) ?_⟩
          walk_at "ly"
          refine ite2 (fun c3 => ?_) (fun c3 => ?_)
          · have hn : n ≤ l.length + 1 := by
              by_cases z : n = l.length + 2
              · exfalso
                refine pig (tk := l.map (·.2)) (f := numS r wd (tkS wd t)) (fun i j hi hj e => ?_) (fun j h1 h2 => ?_)
                · rw [List.length_map] at hi hj
                  exact numS_one (by omega) (by omega) e
                · rw [List.length_map] at h2
                  by_cases y : j = n
                  · rw [y]; exact c3
                  · exact hj j h1 (by omega)
              · omega
            refine ⟨fun σ' H3 => Same H' H3 ∧ σ' = [some (.ref a), some (.str t), some (.ref p), some (.str (tkS wd t)), none, some (.ref D0), some (.int (n + 1 : Nat)), none, none], ?_, ?_⟩
            · rintro σ' H3 ⟨S4, rfl⟩
              refine ⟨_, by omega, n + 1, rfl, by omega, by omega, S4, rfl, fun j h1 h2 => ?_⟩
              by_cases y : j = n
              · rw [y]; exact c3
              · exact hj j h1 (by omega)
            · walk_at "ly"
              exact ⟨_, rfl, _, _, rfl, rfl, S2, by rw [show ((n + 1 : Nat) : Int) = (n : Int) + 1 by omega]; rfl⟩
          · refine ⟨_, _, S3 _ _ ha, rfl, _, _, n, r, wd, rfl, hv.sm S3, h6, by have := (okText_iff.mp bo).1; omega, by omega, ?_⟩
            have qn := hr _ S3
            rw [if_pos c2, nextN_eq c3 l.length 2 n2 (by omega) hj] at qn
            exact qn
def spCheckNamer (C : Addr) : Sp := fun vs H Q _ => ∃ (v : V) (r : Ru) (wd : Nat), vs = [v] ∧ Dt N0 H v (namerD C r wd) ∧ Q .non H
theorem ok_check_namer (T : Tx K mg) : FnOk P w K mg base L2.CX0 lv_check_namer T.f_check_namer T.d_check_namer p_check_namer (spCheckNamer T.C_Namer) := by
  refine T.F_check_namer.ok sc_check_namer (fun vs H Q E h => ?_) (fun cdv A outer s H vs Q E hr h => ?_)
  · obtain ⟨v, r, wd, rfl, _⟩ := h
    rfl
  · obtain ⟨v, r, wd, rfl, hv, q⟩ := h
    obtain ⟨a, dx, rfl, _, ha⟩ := nmF hv
    refine ⟨_, (pss_one (ps_if (pt_not (pt_val (pe_callB (call_isiK (K := K) rfl) (by rfl) T.n_isinstance (by decide +kernel) (pa_cons (pv 0) (pa_cons (pe_gref rfl T.m_Namer) pa_nil))))) (pss_one ps_never) pss_nil)), ?_⟩
    walk_at "ly"
    refine ⟨_, _, _, _, true, rfl, .own _, .base (.ins ha T.c_Namer T.i_Namer.ha T.i_Namer.hn T.i_Namer.htk T.i_Namer.hm), T.i_Namer.me, _, rfl, ?_⟩
    walk_at "ly"
    exact q
def spCheckTexts : Sp := fun vs H Q _ => ∃ (v : V) (l : List Str), vs = [v] ∧ Dt N0 H v (.tup (l.map D.str)) ∧ l.length ≤ 6 ∧ (∀ z ∈ l, okText 200 z = true) ∧ ∀ H', Same H H' → Q .non H'
theorem ok_check_texts (T : Tx K mg) : FnOk P w K mg base L2.CX0 lv_check_texts T.f_check_texts T.d_check_texts p_check_texts spCheckTexts := by
  refine T.F_check_texts.ok sc_check_texts (fun vs H Q E h => ?_) (fun cdv A outer s H vs Q E hr h => ?_)
  · obtain ⟨v, l, rfl, _⟩ := h
    rfl
  · obtain ⟨v, l, rfl, hv, hl, hok, q⟩ := h
    obtain ⟨p, xs, rfl, _, hp, hs⟩ := dt_tup hv
    have hxs := hs.strs_eq
    subst hxs
    refine ⟨_, (pss_cons (ps_if (PW.pt (pw_or (pt_not (pt_val (pe_callB (call_isiK (K := K) rfl) (by rfl) T.n_isinstance (by decide +kernel) (pa_cons (pv 0) (pa_cons (pe_bt "tuple" rfl T.n_tuple (by decide +kernel)) pa_nil))))) (pw_or1 (pt_cmpR op_gt (pe_callB (call_lenK (K := K) rfl) (by rfl) T.n_len (by decide +kernel) (pa_cons (pv 0) pa_nil)) (C8.pe_gc rfl T.k_MOST_LISTED) (nomark _))))) (pss_one ps_never) pss_nil)
        (pss_one (ps_for PassesOwn.never rfl (pi_enumT (K := K) rfl rfl T.n_enumerate (pa_cons (pv 0) pa_nil)) (pg_tupK (K := K) (n := 2) rfl rfl (pgs_cons (pg_name (i := 1) sc_check_texts.nd rfl (by first | exact Or.inl rfl | exact Or.inr rfl)) (pgs_cons (pg_name (i := 2) sc_check_texts.nd rfl (by first | exact Or.inl rfl | exact Or.inr rfl)) pgs_nil))) (pss_one (ps_if (pt_not (pt_val (pe_call (ok_is_text T) (hr.mono (by decide)) rfl T.m_is_text T.F_is_text.kp T.b_is_text .nil pass0 (pa_cons (pv 2) (pa_cons (C8.pe_gc rfl T.k_MOST_TEXT) pa_nil))))) (pss_one ps_never) pss_nil))))), ?_⟩
    walk_at "ly"
    refine ⟨_, _, _, _, true, rfl, .ty _, .base (.tup hp), kit_ty (by decide +kernel), _, rfl, ?_⟩
    walk_at "ly"
    refine lenT hp ?_
    walk_at "ly"
    rw [List.length_map]
    refine ite2 (fun c => absurd c (by omega)) (fun _ => ?_)
    refine forE (S := N0) hp (fun z => z) (fun i σ H' => Same H H' ∧ ∃ u v, σ = [some (.ref p), u, v]) ⟨Same.refl _, _, _, rfl⟩ (fun i σ' H' hI => Ext.of hI.1) ?_ ?_
    · rintro i y σ' H' t hy ⟨hS, u, v, rfl⟩ hT
      rw [List.getElem?_map] at hy
      obtain ⟨z, hz, rfl⟩ := Option.map_eq_some_iff.mp hy
      have s1 := Same.snew hS (o := .tup [.int (i : Nat), .str z]) hT
      refine ⟨t, _, rfl, SqT.of upd_same, rfl, ?_⟩
      walk_at "ly"
      have hzo := hok z (List.mem_of_getElem? hz)
      have hz1 := (okText_iff.mp hzo).1
      refine ⟨_, 200, rfl, .inl ⟨z, rfl, by omega, fun H1 hS1 => ?_⟩⟩
      rw [hzo]
      refine ⟨true, rfl, ?_⟩
      walk_at "ly"
      exact ⟨s1.trans hS1, _, _, rfl⟩
    · rintro σ' H' ⟨hS, u, v, rfl⟩
      exact q _ hS
end
end GO
namespace G
open PySem PySem.Spec PyProof.Rows L2 U V
theorem dt_n0 {S : Addr → Prop} {H : Hp} {v : V} {d : D} (h : Dt S H v d) : Dt N0 H v d := Dt.set (fun _ _ _ z => z) d h
theorem dtA_n0 {S : Addr → Prop} {H : Hp} {v : List V} {d : List D} (h : DtA S H v d) : DtA N0 H v d := DtA.set (fun _ _ _ z => z) d h
section
variable {P : Program} {w : World} {K : PySem.W.Frag} {mg : Str → Option Value} {base : Heap}
theorem fn_or {CX : CXT} {k : Nat} {f : Addr} {fd : FuncData} {ps : List Str} {a b : DC} (F : FnOk P w K mg base CX k f fd ps (lift a)) (G : FnOk P w K mg base CX k f fd ps (lift b)) : FnOk P w K mg base CX k f fd ps (lift fun ds M R => a ds M R ∨ b ds M R) := by
  have split : ∀ vs H Q E, lift (fun ds M R => a ds M R ∨ b ds M R) vs H Q E → lift a vs H Q E ∨ lift b vs H Q E := by
    rintro vs H Q E ⟨S, M, ds, R, w, h, p | p, k⟩
    · exact .inl ⟨S, M, ds, R, w, h, p, k⟩
    · exact .inr ⟨S, M, ds, R, w, h, p, k⟩
  exact ⟨fun vs H Q E q => (split vs H Q E q).elim (F.len vs H Q E) (G.len vs H Q E), fun A outer s H args us vs Q E hr e0 hb r hsp => (split vs H Q E hsp).elim (F.run A outer s H args us vs Q E hr e0 hb r) (G.run A outer s H args us vs Q E hr e0 hb r)⟩
theorem okD__law_draw (T : Tx K mg) : FnOk P w K mg base L2.CX0 lv__law_draw T.f__law_draw T.d__law_draw p__law_draw (lift spDrawD) := fn_weak (GO.ok__law_draw T) draw_lift
def spStemD : DC := fun ds M R => ∃ (p : Addr) (n : Nat), ds = [potD p, .int (n : Nat)] ∧ 0 < n ∧ n ≤ 20 ∧ ∀ z, okText n z = true → R (.str z) M
theorem okD__law_stem (T : Tx K mg) : FnOk P w K mg base L2.CX0 lv__law_stem T.f__law_stem T.d__law_stem p__law_stem (lift spStemD) := fn_weak (GO.ok__law_stem T) (by
  rintro vs H Q E ⟨S, M, ds, R, w, h, ⟨p, n, rfl, h0, h1, q⟩, k⟩
  match vs, h with
  | [_, _], .cons (.opq np hp) (.cons (.int _) .nil) => exact ⟨p, n, rfl, hp, h0, h1, fun z H' e hz => k _ S M _ H' (q z hz) (.same e) (w.same e) (.str z)⟩)
def spOneD : DC := fun ds M R => ∃ p v, ds = [potD p, v] ∧ ((∃ xs, isSq M v xs ∧ 0 < xs.length ∧ xs.length < 1000000 ∧ ∀ x ∈ xs, R x M) ∨ (∃ z, v = .str z ∧ 0 < z.length ∧ z.length < 1000000 ∧ ∀ c ∈ cd z, R (.str (one c)) M))
theorem okD__law_one (T : Tx K mg) : FnOk P w K mg base L2.CX0 lv__law_one T.f__law_one T.d__law_one p__law_one (lift (spOneD)) := by
  refine fnD T.F__law_one sc__law_one (fun ds M R h => ?_) (fun cdv A outer s H E hr => ?_)
  · first | (obtain ⟨rfl, _⟩ := h; rfl) | (obtain ⟨_, rfl, _⟩ := h; rfl) | (obtain ⟨_, _, rfl, _⟩ := h; rfl) | (obtain ⟨_, _, _, rfl, _⟩ := h; rfl) | (obtain ⟨_, _, _, _, rfl, _⟩ := h; rfl) | (obtain ⟨_, _, _, _, _, rfl, _⟩ := h; rfl) | (obtain ⟨_, _, _, _, _, _, rfl, _⟩ := h; rfl) | (obtain ⟨_, _, _, _, _, _, _, rfl, _⟩ := h; rfl) | (obtain ⟨_, _, _, _, _, _, _, _, rfl, _⟩ := h; rfl)
  · have hr64 := hr.units
    have hc_Namer := T.c_Namer
    have hi_Namer := T.i_Namer
    have hn_Namer_rule := T.na_Namer_rule
    have hn_Namer_width := T.na_Namer_width
    refine ⟨_, (pss_one (ps_ret (pe_ix (ix_K (K := K) rfl) (pv 1) (pe_call (okD__law_draw T) (hr.mono (by decide)) rfl T.m__law_draw T.F__law_draw.kp T.b__law_draw .nil pass0 (pa_cons (pv 0) (pa_cons (pe_callB (call_lenK (K := K) rfl) (by rfl) T.n_len (by decide +kernel) (pa_cons (pv 1) pa_nil)) pa_nil))) (fun _ _ => rfl)))), ?_⟩
    refine ⟨_, inferInstance, fun ds M R h => ?_⟩
    obtain ⟨p, v, rfl, h⟩ := h
    walk_at "dw"
    rcases h with ⟨xs, hx, h0, h1, q⟩ | ⟨z, rfl, h0, h1, q⟩
    · have hl : ∀ R' : Int → Prop, R' xs.length → V.lenR M v R' := by
        intro R' hR
        rcases hx with rfl | hx | ⟨a, rfl, hx⟩
        · exact ⟨xs, .inl rfl, hR⟩
        · rcases tf_cases hx with rfl | rfl <;> exact ⟨xs, .inr (.inl rfl), hR⟩
        · exact ⟨xs, .inr (.inr ⟨a, rfl, hx⟩), hR⟩
      refine ⟨v, rfl, hl _ ?_⟩
      walk_at "dw"
      refine ⟨p, _, rfl, ⟨by omega, by omega⟩, fun r r0 r1 => ?_⟩
      obtain ⟨j, rfl⟩ := Int.eq_ofNat_of_zero_le r0
      have hj : j < xs.length := by omega
      have e : atI xs ((j : Nat) : Int) = some xs[j] := atI_nat (at_some hj)
      have q2 := q _ (List.getElem_mem hj)
      rcases hx with rfl | hx | ⟨a, rfl, hx⟩
      · exact ⟨xs, _, .inl rfl, e, q2⟩
      · rcases tf_cases hx with rfl | rfl <;> exact ⟨xs, _, .inr (.inl rfl), e, q2⟩
      · exact ⟨xs, _, .inr (.inr ⟨a, rfl, hx⟩), e, q2⟩
    · refine V.x_lenS ⟨by rw [sizeLine_eq]; omega, ?_⟩
      walk_at "dw"
      refine ⟨p, _, rfl, ⟨by omega, by omega⟩, fun r r0 r1 => ?_⟩
      obtain ⟨j, rfl⟩ := Int.eq_ofNat_of_zero_le r0
      have hj : j < (cd z).length := by rw [cd_len]; omega
      exact ⟨_, by rw [sizeLine_eq]; omega, atI_nat (at_some hj), q _ (List.getElem_mem hj)⟩
def nmFs (r : Ru) (wd : Nat) : List (Str × D) := [("rule", .str r.str), ("width", .int (wd : Nat))]
def spNmI (C : Addr) : DC := fun ds M R => ∃ (x : Addr) (r : Ru) (wd : Nat), ds = [.ptr x, .str r.str, .int (wd : Nat)] ∧ 6 ≤ wd ∧ wd ≤ 40 ∧ M x = some (.ins C []) ∧ R .non (mset M x (.ins C (nmFs r wd)))
theorem okD_Namer___init__ (T : Tx K mg) : FnOk P w K mg base L2.CX0 lv_Namer___init__ T.f_Namer___init__ T.d_Namer___init__ p_Namer___init__ (lift (spNmI T.C_Namer)) := by
  refine fnD T.F_Namer___init__ sc_Namer___init__ (fun ds M R h => ?_) (fun cdv A outer s H E hr => ?_)
  · first | (obtain ⟨rfl, _⟩ := h; rfl) | (obtain ⟨_, rfl, _⟩ := h; rfl) | (obtain ⟨_, _, rfl, _⟩ := h; rfl) | (obtain ⟨_, _, _, rfl, _⟩ := h; rfl) | (obtain ⟨_, _, _, _, rfl, _⟩ := h; rfl) | (obtain ⟨_, _, _, _, _, rfl, _⟩ := h; rfl) | (obtain ⟨_, _, _, _, _, _, rfl, _⟩ := h; rfl) | (obtain ⟨_, _, _, _, _, _, _, rfl, _⟩ := h; rfl) | (obtain ⟨_, _, _, _, _, _, _, _, rfl, _⟩ := h; rfl)
  · have hr64 := hr.units
    have hc_Namer := T.c_Namer
    have hi_Namer := T.i_Namer
    have hn_Namer_rule := T.na_Namer_rule
    have hn_Namer_width := T.na_Namer_width
    refine ⟨_, (pss_cons (ps_if (PW.pt (pw_or (pt_not (pt_val (pe_callB (call_isiK (K := K) rfl) (by rfl) T.n_isinstance (by decide +kernel) (pa_cons (pv 1) (pa_cons (pe_bt "str" rfl T.n_str (by decide +kernel)) pa_nil))))) (pw_or1 (pt_cmpR (op_ninKT (l := [PySem.Str.ofString "count", PySem.Str.ofString "free", PySem.Str.ofString "tight"]) T.q_RULES) (pv 1) (pe_gref rfl T.m_RULES) (by rfl))))) (pss_one ps_never) pss_nil)
        (pss_cons (ps_if (PW.pt (pw_or (pt_not (pt_val (pe_call (okD_is_integer T) (hr.mono (by decide)) rfl T.m_is_integer T.F_is_integer.kp T.b_is_integer .nil pass0 (pa_cons (pv 2) pa_nil)))) (pw_or1 (pt_not (pt_chain op_le op_le (C8.pe_gc rfl T.k_LEAST_WIDTH) (pv 2) (C8.pe_gc rfl T.k_MOST_SIGNS)))))) (pss_one ps_never) pss_nil)
        (pss_cons (ps_fld (pv 0) (pv 1) rfl)
        (pss_one (ps_fld (pv 0) (pv 2) rfl))))), ?_⟩
    refine ⟨_, inferInstance, fun ds M R h => ?_⟩
    obtain ⟨x, r, wd, rfl, h6, h40, hm, q⟩ := h
    walk_at "dw"
    refine ⟨_, true, .str _, kit_ty (by decide +kernel), ?_⟩
    walk_at "dw"
    refine ⟨rfl, r.str, rfl, ?_⟩
    rw [show decide (r.str ∈ [Str.ofString "count", Str.ofString "free", Str.ofString "tight"]) = true by cases r <;> decide +kernel]
    walk_at "dw"
    rw [if_neg (by decide)]
    walk_at "dw"
    refine ⟨_, rfl, _, .int _, by decide, true, rfl, ?_⟩
    walk_at "dw"
    rw [show putD (Str.ofString "width") (D.int (wd : Nat)) (putD (Str.ofString "rule") (D.str r.str) []) = nmFs r wd by simp [putD, nmFs]; decide +kernel]
    exact q
theorem okF_Namer___init__ (T : Tx K mg) : FnOk P w K mg base L2.CX0 lv_Namer___init__ T.f_Namer___init__ T.d_Namer___init__ p_Namer___init__ (liftF (spNmI T.C_Namer)) := okD_Namer___init__ T
/-- a new namer -/
theorem mk_nm {C : Addr} {M : Mem} {R : QD} {r : Ru} {wd : Nat} (h6 : 6 ≤ wd) (h40 : wd ≤ 40) (q : R (namerD C r wd) M) : rMakeF C (spNmI C) [.str r.str, .int (wd : Nat)] M R := fun x hx => by
  refine ⟨x, r, wd, rfl, h6, h40, mset_same, ?_⟩
  refine ⟨rfl, nmFs r wd, by rw [mset_set]; exact mset_same, ?_⟩
  rw [mset_set, mdel_set hx]
  exact q
def spNameForD (C : Addr) : DC := fun ds M R => ∃ (r : Ru) (wd : Nat) (t : Str) (d : D) (l : List (Str × Str)), ds = [namerD C r wd, .str t, d] ∧ 6 ≤ wd ∧ wd ≤ 40 ∧ okText 200 t = true ∧ isLs M d (l.map pD) ∧ l.length ≤ 7 ∧ (∀ p ∈ l, okText 200 p.1 = true ∧ okText 42 p.2 = true) ∧ R (.str (nameF r wd t l)) M
theorem okD_Namer_name_for (T : Tx K mg) : FnOk P w K mg base L2.CX0 lv_Namer_name_for T.f_Namer_name_for T.d_Namer_name_for p_Namer_name_for (lift (spNameForD T.C_Namer)) := fn_weak (GO.ok_Namer_name_for T) (by
  rintro vs H Q E ⟨S, M, ds, R, w, h, ⟨r, wd, t, d, l, rfl, h6, h40, ot, hl, l7, lo, q⟩, k⟩
  match vs, h with
  | [_, _, _], .cons h1 (.cons (.str _) (.cons h2 .nil)) =>
    obtain ⟨a, us, rfl, ha, hs⟩ := ls_get w h2 hl
    exact ⟨_, _, t, r, wd, l, rfl, dt_n0 h1, h6, h40, ot, .lst (fun z => z) ha (dtA_n0 hs), l7, lo, fun H' e => k _ S M _ H' q (.same e) (w.same e) (.str _)⟩)
def spCheckNamerD (C : Addr) : DC := fun ds M R => ∃ (r : Ru) (wd : Nat), ds = [namerD C r wd] ∧ R .non M
theorem okD_check_namer (T : Tx K mg) : FnOk P w K mg base L2.CX0 lv_check_namer T.f_check_namer T.d_check_namer p_check_namer (lift (spCheckNamerD T.C_Namer)) := fn_weak (GO.ok_check_namer T) (by
  rintro vs H Q E ⟨S, M, ds, R, w, h, ⟨r, wd, rfl, q⟩, k⟩
  match vs, h with
  | [_], .cons h1 .nil => exact ⟨_, r, wd, rfl, dt_n0 h1, k _ S M _ H q .refl w .non⟩)
def spCheckTextsN : DC := fun ds M R => ∃ (l : List Str), ds = [.tup (l.map D.str)] ∧ l.length ≤ 6 ∧ (∀ z ∈ l, okText 200 z = true) ∧ R .non M
theorem okD_check_texts (T : Tx K mg) : FnOk P w K mg base L2.CX0 lv_check_texts T.f_check_texts T.d_check_texts p_check_texts (lift spCheckTextsN) := fn_weak (GO.ok_check_texts T) (by
  rintro vs H Q E ⟨S, M, ds, R, w, h, ⟨l, rfl, hl, ho, q⟩, k⟩
  match vs, h with
  | [_], .cons h1 .nil => exact ⟨_, l, rfl, dt_n0 h1, hl, ho, fun H' e => k _ S M _ H' q (.same e) (w.same e) .non⟩)
def namesD (r : Ru) (wd : Nat) (l : List Str) : List D := (namesF r wd l).map D.str
def spNamesOfT (C : Addr) : DC := fun ds M R => ∃ (r : Ru) (wd : Nat) (l : List Str), ds = [namerD C r wd, .tup (l.map D.str)] ∧ 6 ≤ wd ∧ wd ≤ 40 ∧ l.length ≤ 7 ∧ (∀ z ∈ l, okText 200 z = true) ∧ R (.lst (namesD r wd l)) M
def spNamesOfL (C : Addr) : DC := fun ds M R => ∃ (r : Ru) (wd : Nat) (l : List Str), ds = [namerD C r wd, .lst (l.map D.str)] ∧ 6 ≤ wd ∧ wd ≤ 40 ∧ l.length ≤ 7 ∧ (∀ z ∈ l, okText 200 z = true) ∧ R (.lst (namesD r wd l)) M
theorem names_turns {r : Ru} {wd : Nat} {l : List Str} (ho : ∀ z ∈ l, okText 200 z = true) (h40 : wd ≤ 40) (h7 : l.length ≤ 7) {i : Nat} {z : Str} (hz : l[i]? = some z) : (thF r wd (l.take i)).length ≤ 6 ∧ (∀ p ∈ thF r wd (l.take i), okText 200 p.1 = true ∧ okText 42 p.2 = true) ∧ (thF r wd (l.take i)).map pD ++ [.tup [.str z, .str (nameF r wd z (thF r wd (l.take i)))]] = (thF r wd (l.take (i + 1))).map pD := by
  have tl := thF_len r wd (l.take i).length _ rfl
  have hi := (List.getElem?_eq_some_iff.mp hz).1
  refine ⟨by rw [tl, List.length_take]; omega, thF_ok (r := r) h40 ho (by omega) i, ?_⟩
  rw [thF_take hz, List.map_append]
  rfl
theorem okD_names_ofT (T : Tx K mg) : FnOk P w K mg base L2.CX0 lv_names_of T.f_names_of T.d_names_of p_names_of (lift (spNamesOfT T.C_Namer)) := by
  refine fnDW T.F_names_of sc_names_of (fun ds M R h => ?_) (fun cdv A outer s H E hr => ?_)
  · first | (obtain ⟨rfl, _⟩ := h; rfl) | (obtain ⟨_, rfl, _⟩ := h; rfl) | (obtain ⟨_, _, rfl, _⟩ := h; rfl) | (obtain ⟨_, _, _, rfl, _⟩ := h; rfl) | (obtain ⟨_, _, _, _, rfl, _⟩ := h; rfl) | (obtain ⟨_, _, _, _, _, rfl, _⟩ := h; rfl) | (obtain ⟨_, _, _, _, _, _, rfl, _⟩ := h; rfl) | (obtain ⟨_, _, _, _, _, _, _, rfl, _⟩ := h; rfl) | (obtain ⟨_, _, _, _, _, _, _, _, rfl, _⟩ := h; rfl)
  · have hr64 := hr.units
    have hc_Namer := T.c_Namer
    have hi_Namer := T.i_Namer
    have hn_Namer_rule := T.na_Namer_rule
    have hn_Namer_width := T.na_Namer_width
    refine ⟨_, (pss_cons (ps_set (i := 2) sc_names_of.nd rfl (by first | exact Or.inl rfl | exact Or.inr rfl) (pe_lstM pa_nil))
        (pss_cons (ps_for PassesOwn.never rfl (pi_tupK (K := K) rfl (pv 1)) (pg_name (i := 3) sc_names_of.nd rfl (by first | exact Or.inl rfl | exact Or.inr rfl)) (pss_one (ps_expr (pe_bm PySem.F.plainAttrs_list PySem.F.slot_list_append PySem.F.type_list_append mt_append (pv 2) (pa_cons (pe_tup (pa_cons (pv 3) (pa_cons (pe_meth (pv 0) T.c_Namer T.t_Namer_name_for (okD_Namer_name_for T) (hr.mono (by decide)) T.b_Namer_name_for .nil pass0 (pa_cons (pv 3) (pa_cons (pv 2) pa_nil))) pa_nil))) pa_nil)))))
        (pss_one (ps_ret (pe_lc (own := [("text", 3), ("name", 4)]) rfl sc_names_of.nd (pi_listK (K := K) rfl (pv 2)) (blkOk_by (N := ["namer", "texts", "there", "text", "name"]) (sc := L2.defScope s_names_of) (by decide +kernel)) (fun _ _ _ _ _ => (pg_tupK (K := K) (n := 2) rfl rfl (pgs_cons (pg_name (i := 3) sc_names_of.nd rfl (by first | exact Or.inl rfl | exact Or.inr rfl)) (pgs_cons (pg_name (i := 4) sc_names_of.nd rfl (by first | exact Or.inl rfl | exact Or.inr rfl)) pgs_nil)))) (fun _ _ _ _ _ => pts_nil) (fun _ _ _ _ _ => (pv 4))))))), ?_⟩
    refine ⟨_, inferInstance, fun ds M R h => ?_⟩
    obtain ⟨r, wd, l, rfl, h6, h40, h7, ho, q⟩ := h
    walk_at "dw"
    intro a ha
    walk_at "dw"
    refine loop_inv (fun i δ M' => M' = mset M a (.lst ((thF r wd (l.take i)).map pD)) ∧ ∃ u3 u4, δ = [some (namerD T.C_Namer r wd), some (.tup (l.map D.str)), some (.ptr a), u3, u4]) ⟨rfl, _, _, rfl⟩ ?_ ?_
    · rintro i x δ M' Kc hx ⟨rfl, u3, u4, rfl⟩ hk
      rw [List.getElem?_map] at hx
      obtain ⟨z, hz, rfl⟩ := Option.map_eq_some_iff.mp hx
      obtain ⟨t1, t2, t3⟩ := names_turns (r := r) ho h40 h7 hz
      walk_at "dw"
      refine ⟨a, rfl, ⟨_, mset_same⟩, ?_⟩
      walk_at "dw"
      refine ⟨⟨_, _, .inl rfl, by decide +kernel⟩, ?_⟩
      walk_at "dw"
      refine ⟨r, wd, z, .ptr a, thF r wd (l.take i), rfl, h6, h40, ho z (List.mem_of_getElem? hz), .inr ⟨a, rfl, mset_same⟩, by omega, t2, ?_⟩
      walk_at "dw"
      refine ⟨_, _, rfl, mset_same, by rw [List.length_map, sizeLine_eq]; omega, ?_⟩
      rw [mset_set]
      refine hk _ _ trivial ⟨?_, _, _, rfl⟩
      rw [← t3]
    · rintro δ M' ⟨rfl, u3, u4, rfl⟩
      rw [List.length_map, List.take_length]
      have tl := thF_len r wd l.length _ rfl
      walk_at "dw"
      refine x_diP mset_same ?_
      walk_at "dw"
      refine ⟨mset_same, by rw [List.length_map, tl]; omega, ?_⟩
      refine gather_all (f := fun d => match d with | .tup [_, n] => n | d => d) ?_ mset_same ?_
      · intro x hx Ky hy
        obtain ⟨pr, hpr, rfl⟩ := List.mem_map.mp hx
        have hy : Ky (.str pr.2) (mset M a (.lst ((thF r wd l).map pD))) := hy
        unfold pD
        walk_at "dw"
        exact hy
      have e : ((thF r wd l).map pD).map (fun d => match d with | .tup [_, n] => n | d => d) = namesD r wd l := by
        unfold namesD namesF
        rw [List.map_map, List.map_map]
        rfl
      rw [e]
      exact ⟨M, mle_set ha, q⟩
theorem okD_names_ofL (T : Tx K mg) : FnOk P w K mg base L2.CX0 lv_names_of T.f_names_of T.d_names_of p_names_of (lift (spNamesOfL T.C_Namer)) := by
  refine fnDW T.F_names_of sc_names_of (fun ds M R h => ?_) (fun cdv A outer s H E hr => ?_)
  · first | (obtain ⟨rfl, _⟩ := h; rfl) | (obtain ⟨_, rfl, _⟩ := h; rfl) | (obtain ⟨_, _, rfl, _⟩ := h; rfl) | (obtain ⟨_, _, _, rfl, _⟩ := h; rfl) | (obtain ⟨_, _, _, _, rfl, _⟩ := h; rfl) | (obtain ⟨_, _, _, _, _, rfl, _⟩ := h; rfl) | (obtain ⟨_, _, _, _, _, _, rfl, _⟩ := h; rfl) | (obtain ⟨_, _, _, _, _, _, _, rfl, _⟩ := h; rfl) | (obtain ⟨_, _, _, _, _, _, _, _, rfl, _⟩ := h; rfl)
  · have hr64 := hr.units
    have hc_Namer := T.c_Namer
    have hi_Namer := T.i_Namer
    have hn_Namer_rule := T.na_Namer_rule
    have hn_Namer_width := T.na_Namer_width
    refine ⟨_, (pss_cons (ps_set (i := 2) sc_names_of.nd rfl (by first | exact Or.inl rfl | exact Or.inr rfl) (pe_lstM pa_nil))
        (pss_cons (ps_for PassesOwn.never rfl (pi_listK (K := K) rfl (pv 1)) (pg_name (i := 3) sc_names_of.nd rfl (by first | exact Or.inl rfl | exact Or.inr rfl)) (pss_one (ps_expr (pe_bm PySem.F.plainAttrs_list PySem.F.slot_list_append PySem.F.type_list_append mt_append (pv 2) (pa_cons (pe_tup (pa_cons (pv 3) (pa_cons (pe_meth (pv 0) T.c_Namer T.t_Namer_name_for (okD_Namer_name_for T) (hr.mono (by decide)) T.b_Namer_name_for .nil pass0 (pa_cons (pv 3) (pa_cons (pv 2) pa_nil))) pa_nil))) pa_nil)))))
        (pss_one (ps_ret (pe_lc (own := [("text", 3), ("name", 4)]) rfl sc_names_of.nd (pi_listK (K := K) rfl (pv 2)) (blkOk_by (N := ["namer", "texts", "there", "text", "name"]) (sc := L2.defScope s_names_of) (by decide +kernel)) (fun _ _ _ _ _ => (pg_tupK (K := K) (n := 2) rfl rfl (pgs_cons (pg_name (i := 3) sc_names_of.nd rfl (by first | exact Or.inl rfl | exact Or.inr rfl)) (pgs_cons (pg_name (i := 4) sc_names_of.nd rfl (by first | exact Or.inl rfl | exact Or.inr rfl)) pgs_nil)))) (fun _ _ _ _ _ => pts_nil) (fun _ _ _ _ _ => (pv 4))))))), ?_⟩
    refine ⟨_, inferInstance, fun ds M R h => ?_⟩
    obtain ⟨r, wd, l, rfl, h6, h40, h7, ho, q⟩ := h
    walk_at "dw"
    intro a ha
    walk_at "dw"
    refine loop_inv (fun i δ M' => M' = mset M a (.lst ((thF r wd (l.take i)).map pD)) ∧ ∃ u3 u4, δ = [some (namerD T.C_Namer r wd), some (.lst (l.map D.str)), some (.ptr a), u3, u4]) ⟨rfl, _, _, rfl⟩ ?_ ?_
    · rintro i x δ M' Kc hx ⟨rfl, u3, u4, rfl⟩ hk
      rw [List.getElem?_map] at hx
      obtain ⟨z, hz, rfl⟩ := Option.map_eq_some_iff.mp hx
      obtain ⟨t1, t2, t3⟩ := names_turns (r := r) ho h40 h7 hz
      walk_at "dw"
      refine ⟨a, rfl, ⟨_, mset_same⟩, ?_⟩
      walk_at "dw"
      refine ⟨⟨_, _, .inl rfl, by decide +kernel⟩, ?_⟩
      walk_at "dw"
      refine ⟨r, wd, z, .ptr a, thF r wd (l.take i), rfl, h6, h40, ho z (List.mem_of_getElem? hz), .inr ⟨a, rfl, mset_same⟩, by omega, t2, ?_⟩
      walk_at "dw"
      refine ⟨_, _, rfl, mset_same, by rw [List.length_map, sizeLine_eq]; omega, ?_⟩
      rw [mset_set]
      refine hk _ _ trivial ⟨?_, _, _, rfl⟩
      rw [← t3]
    · rintro δ M' ⟨rfl, u3, u4, rfl⟩
      rw [List.length_map, List.take_length]
      have tl := thF_len r wd l.length _ rfl
      walk_at "dw"
      refine x_diP mset_same ?_
      walk_at "dw"
      refine ⟨mset_same, by rw [List.length_map, tl]; omega, ?_⟩
      refine gather_all (f := fun d => match d with | .tup [_, n] => n | d => d) ?_ mset_same ?_
      · intro x hx Ky hy
        obtain ⟨pr, hpr, rfl⟩ := List.mem_map.mp hx
        have hy : Ky (.str pr.2) (mset M a (.lst ((thF r wd l).map pD))) := hy
        unfold pD
        walk_at "dw"
        exact hy
      have e : ((thF r wd l).map pD).map (fun d => match d with | .tup [_, n] => n | d => d) = namesD r wd l := by
        unfold namesD namesF
        rw [List.map_map, List.map_map]
        rfl
      rw [e]
      exact ⟨M, mle_set ha, q⟩
theorem okD_names_of (T : Tx K mg) : FnOk P w K mg base L2.CX0 lv_names_of T.f_names_of T.d_names_of p_names_of (lift fun ds M R => spNamesOfT T.C_Namer ds M R ∨ spNamesOfL T.C_Namer ds M R) := fn_or (okD_names_ofT (T := T)) (okD_names_ofL (T := T))
def spNamesN (C : Addr) : DC := fun ds M R => ∃ (r : Ru) (wd : Nat) (l : List Str), ds = [namerD C r wd, .tup (l.map D.str)] ∧ 6 ≤ wd ∧ wd ≤ 40 ∧ l.length ≤ 6 ∧ (∀ z ∈ l, okText 200 z = true) ∧ R (.tup (namesD r wd l)) M
theorem okD_names (T : Tx K mg) : FnOk P w K mg base L2.CX0 lv_names T.f_names T.d_names p_names (lift (spNamesN T.C_Namer)) := by
  refine fnD T.F_names sc_names (fun ds M R h => ?_) (fun cdv A outer s H E hr => ?_)
  · first | (obtain ⟨rfl, _⟩ := h; rfl) | (obtain ⟨_, rfl, _⟩ := h; rfl) | (obtain ⟨_, _, rfl, _⟩ := h; rfl) | (obtain ⟨_, _, _, rfl, _⟩ := h; rfl) | (obtain ⟨_, _, _, _, rfl, _⟩ := h; rfl) | (obtain ⟨_, _, _, _, _, rfl, _⟩ := h; rfl) | (obtain ⟨_, _, _, _, _, _, rfl, _⟩ := h; rfl) | (obtain ⟨_, _, _, _, _, _, _, rfl, _⟩ := h; rfl) | (obtain ⟨_, _, _, _, _, _, _, _, rfl, _⟩ := h; rfl)
  · have hr64 := hr.units
    have hc_Namer := T.c_Namer
    have hi_Namer := T.i_Namer
    have hn_Namer_rule := T.na_Namer_rule
    have hn_Namer_width := T.na_Namer_width
    refine ⟨_, (pss_cons (ps_expr (pe_call (okD_check_namer T) (hr.mono (by decide)) rfl T.m_check_namer T.F_check_namer.kp T.b_check_namer .nil pass0 (pa_cons (pv 0) pa_nil)))
        (pss_cons (ps_expr (pe_call (okD_check_texts T) (hr.mono (by decide)) rfl T.m_check_texts T.F_check_texts.kp T.b_check_texts .nil pass0 (pa_cons (pv 1) pa_nil)))
        (pss_one (ps_ret (pe_tupOfK (K := K) rfl rfl T.n_tuple (pe_call (okD_names_of T) (hr.mono (by decide)) rfl T.m_names_of T.F_names_of.kp T.b_names_of .nil pass0 (pa_cons (pv 0) (pa_cons (pv 1) pa_nil)))))))), ?_⟩
    refine ⟨_, inferInstance, fun ds M R h => ?_⟩
    obtain ⟨r, wd, l, rfl, h6, h40, h6l, ho, q⟩ := h
    walk_at "dw"
    refine ⟨r, wd, rfl, ?_⟩
    walk_at "dw"
    refine ⟨l, rfl, h6l, ho, ?_⟩
    walk_at "dw"
    refine .inl ⟨r, wd, l, rfl, h6, h40, by omega, ho, ?_⟩
    walk_at "dw"
    exact q
def ordStep (n : Nat) (os : List (List Nat)) : List (List Nat) := os.flatMap fun o => ((List.range n).filter fun p => !decide (p ∈ o)).map fun p => o ++ [p]
def ordersF (n : Nat) : Nat → List (List Nat)
  | 0 => [[]]
  | k + 1 => ordStep n (ordersF n k)
def ordD (o : List Nat) : D := .tup (o.map fun i => D.int (i : Nat))
theorem ordStep_len (n : Nat) : ∀ os : List (List Nat), (ordStep n os).length ≤ n * os.length
  | [] => by simp [ordStep]
  | o :: os => by
    have h := ordStep_len n os
    have e : ordStep n (o :: os) = (((List.range n).filter fun p => !decide (p ∈ o)).map fun p => o ++ [p]) ++ ordStep n os := rfl
    rw [e, List.length_append, List.length_map, List.length_cons, Nat.mul_succ]
    have f := List.length_filter_le (fun p => !decide (p ∈ o)) (List.range n)
    rw [List.length_range] at f
    omega
theorem orders_len {n : Nat} (hn : n ≤ 6) : ∀ k, k ≤ 5 → (ordersF n k).length ≤ 7776 := by
  have h : ∀ k, (ordersF n k).length ≤ 6 ^ k := by
    intro k
    induction k with
    | zero => exact Nat.le_refl _
    | succ k ih =>
      refine Nat.le_trans (ordStep_len n _) ?_
      rw [Nat.pow_succ, Nat.mul_comm]
      exact Nat.mul_le_mul ih hn
  intro k hk
  exact Nat.le_trans (h k) (Nat.le_trans (Nat.pow_le_pow_right (by decide) hk) (by decide))
theorem in_ord {o : List Nat} {m : Nat} {M : Mem} {P : Bool → Prop} (h : P (decide (m ∈ o))) : inR M (pl m) (ordD o) P := by
  refine ⟨o.map pl, by first | exact .inl rfl | exact .inr (.inl rfl), rfl, by rw [List.all_map]; exact List.all_eq_true.mpr fun _ _ => rfl, ?_⟩
  have e : ((o.map pl).any fun e => D.eqb e (pl m)) = decide (m ∈ o) := by
    rw [List.any_map]
    by_cases c : m ∈ o
    · rw [decide_eq_true c]
      exact List.any_eq_true.mpr ⟨m, c, by simp [pl, D.eqb]⟩
    · rw [decide_eq_false c]
      refine List.any_eq_false.mpr fun x hx hc => c ?_
      have hc : D.eqb (pl x) (pl m) = true := hc
      simp [pl, D.eqb] at hc
      have : x = m := by omega
      exact this ▸ hx
  rw [e]
  exact h
def addD (o : List Nat) (d : D) : D := .tup (o.map (fun i => D.int (i : Nat)) ++ [d])
def notIn (o : List Nat) : D → Bool
  | .int k => !decide (k.toNat ∈ o)
  | _ => false
theorem ord_more (n : Nat) (o : List Nat) : ((nums n).filter (notIn o)).map (addD o) = (((List.range n).filter fun p => !decide (p ∈ o)).map fun p => o ++ [p]).map ordD := by
  unfold nums
  rw [List.filter_map, List.map_map, List.map_map]
  refine congr (congrArg _ (funext fun p => ?_)) (congrArg (fun f => List.filter f (List.range n)) (funext fun p => ?_))
  · show D.tup _ = ordD _
    unfold ordD
    rw [List.map_append]
    rfl
  · rfl
theorem ordStep_app (n : Nat) (a : List (List Nat)) (o : List Nat) : (ordStep n (a ++ [o])).map ordD = (ordStep n a).map ordD ++ (((List.range n).filter fun p => !decide (p ∈ o)).map fun p => o ++ [p]).map ordD := by
  unfold ordStep
  rw [List.flatMap_append, List.map_append]
  simp
theorem ord_mem {n : Nat} : ∀ k {o : List Nat}, o ∈ ordersF n k → o.length = k ∧ o.Nodup ∧ ∀ p ∈ o, p < n
  | 0, o, h => by
    rw [List.mem_singleton.mp h]
    exact ⟨rfl, List.nodup_nil, fun _ z => nomatch z⟩
  | k + 1, o, h => by
    obtain ⟨q, hq, ho⟩ := List.mem_flatMap.mp h
    obtain ⟨p, hp, rfl⟩ := List.mem_map.mp ho
    obtain ⟨h1, h2, h3⟩ := ord_mem k hq
    obtain ⟨hp1, hp2⟩ := List.mem_filter.mp hp
    have hn : p ∉ q := by simpa using hp2
    refine ⟨by rw [List.length_append, h1]; rfl, ?_, fun x hx => ?_⟩
    · rw [List.nodup_append]
      exact ⟨h2, by simp, fun a ha b hb => by rw [List.mem_singleton.mp hb]; rintro rfl; exact hn ha⟩
    · rcases List.mem_append.mp hx with z | z
      · exact h3 x z
      · rw [List.mem_singleton.mp z]; exact List.mem_range.mp hp1
def spOrders : DC := fun ds M R => ∃ n : Nat, ds = [.int (n : Nat)] ∧ n ≤ 6 ∧ R (.lst ((ordersF n n).map ordD)) M
theorem okD_orders_of (T : Tx K mg) : FnOk P w K mg base L2.CX0 lv_orders_of T.f_orders_of T.d_orders_of p_orders_of (lift (spOrders)) := by
  refine fnD T.F_orders_of sc_orders_of (fun ds M R h => ?_) (fun cdv A outer s H E hr => ?_)
  · first | (obtain ⟨rfl, _⟩ := h; rfl) | (obtain ⟨_, rfl, _⟩ := h; rfl) | (obtain ⟨_, _, rfl, _⟩ := h; rfl) | (obtain ⟨_, _, _, rfl, _⟩ := h; rfl) | (obtain ⟨_, _, _, _, rfl, _⟩ := h; rfl) | (obtain ⟨_, _, _, _, _, rfl, _⟩ := h; rfl) | (obtain ⟨_, _, _, _, _, _, rfl, _⟩ := h; rfl) | (obtain ⟨_, _, _, _, _, _, _, rfl, _⟩ := h; rfl) | (obtain ⟨_, _, _, _, _, _, _, _, rfl, _⟩ := h; rfl)
  · have hr64 := hr.units
    have hc_Namer := T.c_Namer
    have hi_Namer := T.i_Namer
    have hn_Namer_rule := T.na_Namer_rule
    have hn_Namer_width := T.na_Namer_width
    refine ⟨_, (pss_cons (ps_set (i := 1) sc_orders_of.nd rfl (by first | exact Or.inl rfl | exact Or.inr rfl) (pe_lst (pa_cons (pe_tup pa_nil) pa_nil)))
        (pss_cons (ps_for PassesOwn.never rfl (pi_range1 rfl T.n_range (pa_cons (pv 0) pa_nil)) (pg_name (i := 2) sc_orders_of.nd rfl (by first | exact Or.inl rfl | exact Or.inr rfl)) (pss_one (ps_setLc2 (vs1 := [4]) (i := 1) (own := [("order", 3), ("place", 4)]) rfl sc_orders_of.nd rfl rfl (sw_true rfl rfl rfl (by decide +kernel)) (pi_listK (K := K) rfl (pv 1)) (blkOk_by (N := ["many", "found", "turn", "order", "place"]) (sc := L2.defScope s_orders_of) (by decide +kernel)) (by decide) (fun _ _ _ _ _ => (pg_name (i := 3) sc_orders_of.nd rfl (by first | exact Or.inl rfl | exact Or.inr rfl))) (fun _ _ _ _ _ => pts_nil) (fun _ _ _ _ _ => (pi_range1 rfl T.n_range (pa_cons (pv 0) pa_nil))) (fun _ _ _ _ _ => (pg_name (i := 4) sc_orders_of.nd rfl (by first | exact Or.inl rfl | exact Or.inr rfl))) (fun _ _ _ _ _ => (pts_one (pt_cmpR (op_ninK (K := K) rfl) (pv 4) (pv 3) (by rfl)))) (fun _ _ _ _ _ => (pe_tup (pa_starK (K := K) rfl (pv 3) (pa_cons (pv 4) pa_nil)))))))
        (pss_one (ps_ret (pv 1))))), ?_⟩
    refine ⟨_, inferInstance, fun ds M R h => ?_⟩
    obtain ⟨n, rfl, hn, q⟩ := h
    walk_at "dw"
    refine ⟨by omega, by omega, trivial, ?_⟩
    refine loop_inv (fun i δ M' => M' = M ∧ ∃ u2 u3 u4, δ = [some (.int (n : Nat)), some (.lst ((ordersF n i).map ordD)), u2, u3, u4]) ⟨rfl, _, _, _, rfl⟩ ?_ ?_
    · rintro i x δ M' Kc hx ⟨rfl, u2, u3, u4, rfl⟩ hk
      rw [rg_nums] at hx
      obtain ⟨hi, rfl⟩ := nums_get hx
      walk_at "dw"
      refine x_lc2 ?_
      walk_at "dw"
      refine gather2_inv (fun j acc M2 => M2 = M' ∧ acc = (ordStep n ((ordersF n i).take j)).map ordD) ⟨rfl, rfl⟩ ?_ ?_
      · rintro j x acc _ Kn hx ⟨rfl, rfl⟩ hk2
        rw [List.getElem?_map] at hx
        obtain ⟨o, ho, rfl⟩ := Option.map_eq_some_iff.mp hx
        walk_at "dw"
        refine x_ia1 ?_
        walk_at "dw"
        refine ⟨by omega, by omega, ?_⟩
        refine in_map (p := notIn o) (f := addD o) ?_ ?_ ?_
        · rw [List.length_map, rg_nums, nums_length, sizeLine_eq]
          have l1 := ordStep_len n ((ordersF n i).take j)
          have l2 := orders_len hn i (by omega)
          have l3 : ((ordersF n i).take j).length ≤ (ordersF n i).length := by rw [List.length_take]; omega
          have l4 : n * ((ordersF n i).take j).length ≤ 6 * 7776 := Nat.mul_le_mul hn (by omega)
          omega
        · intro y hy Ky Kq h1 h2
          rw [rg_nums] at hy
          obtain ⟨m, hm, rfl⟩ := List.mem_map.mp hy
          walk_at "dw"
          refine in_ord ?_
          by_cases c : m ∈ o
          · rw [decide_eq_true c]
            walk_at "dw"
            exact h2 (show (!decide (m ∈ o)) = false by rw [decide_eq_true c]; rfl)
          · rw [decide_eq_false c]
            walk_at "dw"
            refine ⟨_, .inl rfl, ?_⟩
            walk_at "dw"
            refine ⟨?_, h1 ?_⟩
            · have := (ord_mem i (List.mem_of_getElem? ho)).1
              rw [List.length_append, List.length_map, sizeLine_eq, this]
              simp only [List.length_singleton]
              omega
            exact (show (!decide (m ∈ o)) = true by rw [decide_eq_false c]; rfl)
        · rw [rg_nums, ord_more]
          refine hk2 _ _ trivial ⟨rfl, ?_⟩
          rw [take_snoc ho, ordStep_app]
      · rintro acc _ ⟨rfl, rfl⟩
        walk_at "dw"
        rw [List.length_map, List.take_length]
        exact (hk _ _ trivial ⟨rfl, _, _, _, rfl⟩).2
    · rintro δ _ ⟨rfl, u2, u3, u4, rfl⟩
      walk_at "dw"
      rw [show (rgD 0 (n : Nat)).length = n by rw [rg_nums]; exact nums_length n]
      exact q
/-- the texts in this order -/
def permL (l : List Str) (o : List Nat) : List Str := o.map fun p => (l[p]?).getD Str.empty
theorem permL_len (l : List Str) (o : List Nat) : (permL l o).length = o.length := List.length_map ..
theorem permL_ok {m : Nat} {l : List Str} {o : List Nat} (h : ∀ z ∈ l, okText m z = true) (ho : ∀ p ∈ o, p < l.length) : ∀ z ∈ permL l o, okText m z = true := by
  intro z hz
  obtain ⟨p, hp, rfl⟩ := List.mem_map.mp hz
  rw [List.getElem?_eq_getElem (ho p hp)]
  exact h _ (List.getElem_mem _)
theorem at_perm {l : List Str} {p : Nat} (hp : p < l.length) : (l.map D.str)[p]? = some (.str ((l[p]?).getD Str.empty)) := by
  rw [List.getElem?_map, List.getElem?_eq_getElem hp]
  rfl
/-- [texts[place] for place in order] -/
theorem gather_perm {l : List Str} {o : List Nat} {G : Mem → Prop} {g : DG} {a : DE} {vs : List Nat} {δ : Dl} {M : Mem} {P : QD} (ho : ∀ p ∈ o, p < l.length) (hG : G M)
    (step : ∀ p, p < l.length → ∀ Ky : QD, Ky (.str ((l[p]?).getD Str.empty)) M → g (pl p) (wipeD δ vs) M fun δ1 M1 => a δ1 M1 Ky) (fin : P (.lst ((permL l o).map D.str)) M) : dGather G g dYes a vs δ P (o.map pl) [] M := by
  refine gather_all (f := fun d => match d with | .int k => .str ((l[k.toNat]?).getD Str.empty) | d => d) (fun x hx Ky hy => ?_) hG ?_
  · obtain ⟨p, hp, rfl⟩ := List.mem_map.mp hx
    exact step p (ho p hp) Ky hy
  · rw [List.map_map]
    unfold permL at fin
    rw [List.map_map] at fin
    exact fin
def hitB (r : Ru) (wd : Nat) (l : List Str) (o : List Nat) : Bool := decide ((metS (namesF r wd (permL l o))).length < l.length)
def meetF (r : Ru) (wd : Nat) (l : List Str) : Option (List Nat) := (ordersF l.length l.length).find? (hitB r wd l)
def optO : Option (List Nat) → D
  | none => .non
  | some o => ordD o
def spMeet (C : Addr) : DC := fun ds M R => ∃ (r : Ru) (wd : Nat) (l : List Str), ds = [namerD C r wd, .tup (l.map D.str)] ∧ 6 ≤ wd ∧ wd ≤ 40 ∧ l.length ≤ 6 ∧ (∀ z ∈ l, okText 200 z = true) ∧ R (optO (meetF r wd l)) M
theorem okD_meeting (T : Tx K mg) : FnOk P w K mg base L2.CX0 lv_meeting T.f_meeting T.d_meeting p_meeting (lift (spMeet T.C_Namer)) := by
  refine fnD T.F_meeting sc_meeting (fun ds M R h => ?_) (fun cdv A outer s H E hr => ?_)
  · first | (obtain ⟨rfl, _⟩ := h; rfl) | (obtain ⟨_, rfl, _⟩ := h; rfl) | (obtain ⟨_, _, rfl, _⟩ := h; rfl) | (obtain ⟨_, _, _, rfl, _⟩ := h; rfl) | (obtain ⟨_, _, _, _, rfl, _⟩ := h; rfl) | (obtain ⟨_, _, _, _, _, rfl, _⟩ := h; rfl) | (obtain ⟨_, _, _, _, _, _, rfl, _⟩ := h; rfl) | (obtain ⟨_, _, _, _, _, _, _, rfl, _⟩ := h; rfl) | (obtain ⟨_, _, _, _, _, _, _, _, rfl, _⟩ := h; rfl)
  · have hr64 := hr.units
    have hc_Namer := T.c_Namer
    have hi_Namer := T.i_Namer
    have hn_Namer_rule := T.na_Namer_rule
    have hn_Namer_width := T.na_Namer_width
    refine ⟨_, (pss_cons (ps_expr (pe_call (okD_check_namer T) (hr.mono (by decide)) rfl T.m_check_namer T.F_check_namer.kp T.b_check_namer .nil pass0 (pa_cons (pv 0) pa_nil)))
        (pss_cons (ps_expr (pe_call (okD_check_texts T) (hr.mono (by decide)) rfl T.m_check_texts T.F_check_texts.kp T.b_check_texts .nil pass0 (pa_cons (pv 1) pa_nil)))
        (pss_cons (ps_for PassesOwn.never rfl (pi_listK (K := K) rfl (pe_call (okD_orders_of T) (hr.mono (by decide)) rfl T.m_orders_of T.F_orders_of.kp T.b_orders_of .nil pass0 (pa_cons (pe_callB (call_lenK (K := K) rfl) (by rfl) T.n_len (by decide +kernel) (pa_cons (pv 1) pa_nil)) pa_nil))) (pg_name (i := 2) sc_meeting.nd rfl (by first | exact Or.inl rfl | exact Or.inr rfl)) (pss_one (ps_if (pt_cmpR op_ltU (pe_lenSetS (K := K) rfl rfl T.n_len rfl T.n_set (pe_call (okD_names_of T) (hr.mono (by decide)) rfl T.m_names_of T.F_names_of.kp T.b_names_of .nil pass0 (pa_cons (pv 0) (pa_cons (pe_lc (own := [("place", 3)]) rfl sc_meeting.nd (pi_tupK (K := K) rfl (pv 2)) (blkOk_by (N := ["namer", "texts", "order", "place"]) (sc := L2.defScope s_meeting) (by decide +kernel)) (fun _ _ _ _ _ => (pg_name (i := 3) sc_meeting.nd rfl (by first | exact Or.inl rfl | exact Or.inr rfl))) (fun _ _ _ _ _ => pts_nil) (fun _ _ _ _ _ => (pe_ix (ix_K (K := K) rfl) (pv 1) (pv 3) (fun _ _ => rfl)))) pa_nil)))) (pe_callB (call_lenK (K := K) rfl) (by rfl) T.n_len (by decide +kernel) (pa_cons (pv 1) pa_nil)) (nomark _)) (pss_one (ps_ret (pv 2))) pss_nil)))
        (pss_one (ps_ret pe_non))))), ?_⟩
    refine ⟨_, inferInstance, fun ds M R h => ?_⟩
    obtain ⟨r, wd, l, rfl, h6, h40, h6l, ho, q⟩ := h
    walk_at "dw"
    refine ⟨r, wd, rfl, ?_⟩
    walk_at "dw"
    refine ⟨l, rfl, h6l, ho, ?_⟩
    walk_at "dw"
    refine ⟨l.length, by rw [List.length_map], h6l, ?_⟩
    refine .inl ⟨_, rfl, trivial, ?_⟩
    refine loop_inv (fun i δ M' => M' = M ∧ ((ordersF l.length l.length).take i).find? (hitB r wd l) = none ∧ ∃ u2 u3, δ = [some (namerD T.C_Namer r wd), some (.tup (l.map D.str)), u2, u3]) ⟨rfl, rfl, _, _, rfl⟩ ?_ ?_
    · rintro i x δ M' Kc hx ⟨rfl, hn, u2, u3, rfl⟩ hk
      rw [List.getElem?_map] at hx
      obtain ⟨o, ho2, rfl⟩ := Option.map_eq_some_iff.mp hx
      have hm := List.mem_of_getElem? ho2
      obtain ⟨m1, m2, m3⟩ := ord_mem _ hm
      walk_at "dw"
      refine x_lenSetS ?_
      walk_at "dw"
      refine ⟨_, rfl, trivial, by rw [List.length_map]; omega, ?_⟩
      refine gather_perm (G := fun _ => True) m3 trivial (fun p hp Ky hy => ?_) ?_
      · walk_at "dw"
        exact ⟨_, _, .inr (.inl rfl), atI_nat (at_perm hp), hy⟩
      have pl6 := permL_len l o
      walk_at "dw"
      refine .inr ⟨r, wd, permL l o, rfl, h6, h40, by omega, permL_ok ho m3, ?_⟩
      refine ⟨namesF r wd (permL l o), .inl (.inl rfl), by rw [namesF_len]; omega, ?_⟩
      walk_at "dw"
      have e : decide (((metS (namesF r wd (permL l o))).length : Int) < ((l.map D.str).length : Nat)) = hitB r wd l o := by
        unfold hitB
        rw [List.length_map]
        exact decide_eq_decide.mpr (by omega)
      rw [e]
      cases hb : hitB r wd l o with
      | false =>
        rw [if_neg Bool.false_ne_true]
        walk_at "dw"
        refine (hk _ _ trivial ⟨rfl, ?_, _, _, rfl⟩).2
        rw [take_snoc ho2, List.find?_append, hn]
        simp [hb]
      | true =>
        rw [if_pos rfl]
        walk_at "dw"
        have e2 : meetF r wd l = some o := by
          unfold meetF
          rw [← List.take_append_drop i (ordersF l.length l.length), List.find?_append, hn, drop_cons ho2]
          simp [hb]
        rw [e2] at q
        exact q
    · rintro δ M' ⟨rfl, hn, u2, u3, rfl⟩
      rw [List.length_map, List.take_length] at hn
      walk_at "dw"
      rw [show meetF r wd l = none from hn] at q
      exact q
end
end G
namespace G
open PySem PySem.Spec PyProof.Rows L2 U V
theorem idx_spec : ∀ {o : List Nat} {p : Nat}, p ∈ o → o[o.idxOf p]? = some p ∧ ∀ m, m < o.idxOf p → o[m]? ≠ some p
  | [], p, h => by cases h
  | a :: o, p, h => by
    by_cases c : a = p
    · subst c
      rw [List.idxOf_cons_self]
      exact ⟨rfl, fun m hm => by omega⟩
    · have hp : p ∈ o := (List.mem_cons.mp h).elim (fun e => (c e.symm).elim) id
      obtain ⟨h1, h2⟩ := idx_spec hp
      rw [show (a :: o).idxOf p = o.idxOf p + 1 by rw [List.idxOf_cons, show (a == p) = false from beq_eq_false_iff_ne.mpr c]; rfl]
      refine ⟨by rw [List.getElem?_cons_succ]; exact h1, fun m hm => ?_⟩
      cases m with
      | zero =>
        rw [List.getElem?_cons_zero]
        exact fun e => c (Option.some.inj e)
      | succ m =>
        rw [List.getElem?_cons_succ]
        exact h2 m (by omega)
theorem ord_has {n p : Nat} {o : List Nat} (ho : o ∈ ordersF n n) (hp : p < n) : p ∈ o := by
  obtain ⟨h1, h2, h3⟩ := ord_mem n ho
  refine Classical.byContradiction fun c => ?_
  have := nodup_le h2 (ys := (List.range n).erase p) fun x hx => (List.mem_erase_of_ne (show x ≠ p by rintro rfl; exact c hx)).mpr (List.mem_range.mpr (h3 x hx))
  rw [List.length_erase_of_mem (List.mem_range.mpr hp), List.length_range] at this
  omega
/-- the name of the text at p in this order -/
def givF (r : Ru) (wd : Nat) (l : List Str) (p : Nat) (o : List Nat) : Str := ((namesF r wd (permL l o))[o.idxOf p]?).getD Str.empty
def posF (r : Ru) (wd : Nat) (l : List Str) (p : Nat) : List Str := (ordersF l.length l.length).map (givF r wd l p)
theorem permL_at {l : List Str} {o : List Nat} {j p : Nat} (h : o[j]? = some p) : (permL l o)[j]? = some ((l[p]?).getD Str.empty) := by
  unfold permL
  rw [List.getElem?_map, h]
  rfl
theorem givF_at {r : Ru} {wd : Nat} {l : List Str} {p : Nat} {o : List Nat} (hp : p ∈ o) : (namesF r wd (permL l o))[o.idxOf p]? = some (givF r wd l p o) := by
  have h := (List.getElem?_eq_some_iff.mp (idx_spec hp).1).1
  unfold givF
  rw [List.getElem?_eq_getElem (by rw [namesF_len, permL_len]; exact h)]
  rfl
theorem name_few {r : Ru} {wd : Nat} {t : Str} {th : List (Str × Str)} (h : th.length ≤ 6) : nameF r wd t th ∈ tkS wd t :: (List.range 10).map (numS r wd (tkS wd t)) := by
  have hf := List.length_filter_le (fun p : Str × Str => decide (tkS wd p.1 = tkS wd t)) th
  have n1 := nextN_le (th.map (·.2)) (numS r wd (tkS wd t)) th.length 2
  unfold nameF
  cases r with
  | count =>
    simp only
    split
    · exact List.mem_cons_self
    · exact List.mem_cons_of_mem _ (List.mem_map.mpr ⟨_, List.mem_range.mpr (by omega), rfl⟩)
  | free =>
    simp only
    split
    · exact List.mem_cons_of_mem _ (List.mem_map.mpr ⟨_, List.mem_range.mpr (by omega), rfl⟩)
    · exact List.mem_cons_self
  | tight =>
    simp only
    split
    · exact List.mem_cons_of_mem _ (List.mem_map.mpr ⟨_, List.mem_range.mpr (by omega), rfl⟩)
    · exact List.mem_cons_self
theorem giv_few {r : Ru} {wd : Nat} {l : List Str} {p : Nat} {o : List Nat} (h6 : l.length ≤ 6) (ho : o ∈ ordersF l.length l.length) (hp : p < l.length) : givF r wd l p o ∈ tkS wd ((l[p]?).getD Str.empty) :: (List.range 10).map (numS r wd (tkS wd ((l[p]?).getD Str.empty))) := by
  have hm := ord_has ho hp
  have e := namesF_at (r := r) (w := wd) (permL_at (l := l) (idx_spec hm).1)
  unfold givF
  rw [e]
  refine name_few ?_
  have tl := thF_len r wd ((permL l o).take (o.idxOf p)).length _ rfl
  have hl := (ord_mem _ ho).1
  rw [List.length_take, permL_len] at tl
  omega
theorem pos_few {r : Ru} {wd : Nat} {l : List Str} {p : Nat} (h6 : l.length ≤ 6) (hp : p < l.length) : (metS (posF r wd l p)).length < 64 := by
  have := nodup_le (metS_nodup (posF r wd l p)) (ys := tkS wd ((l[p]?).getD Str.empty) :: (List.range 10).map (numS r wd (tkS wd ((l[p]?).getD Str.empty)))) fun x hx => by
    obtain ⟨o, ho, rfl⟩ := List.mem_map.mp ((metS_mem _).mp hx)
    exact giv_few h6 ho hp
  rw [List.length_cons, List.length_map, List.length_range] at this
  omega
theorem ord_len {n : Nat} (hn : n ≤ 6) : (ordersF n n).length ≤ 720 := by
  have : ∀ n, n < 7 → (ordersF n n).length ≤ 720 := by decide +kernel
  exact this n (by omega)
def ordX (o : List Nat) : D := .ftp (o.map fun i => D.int (i : Nat))
theorem in_ordX {o : List Nat} {m : Nat} {M : Mem} {P : Bool → Prop} (h : P (decide (m ∈ o))) : inR M (pl m) (ordX o) P := by
  have h2 := in_ord (o := o) (m := m) (M := M) (P := P) h
  obtain ⟨ys, e1, e2, e3, e4⟩ := h2
  refine ⟨ys, ?_, e2, e3, e4⟩
  rcases e1 with e1 | e1 | ⟨a, e1, _⟩
  · cases e1
  · exact .inr (.inl e1)
  · cases e1
def addX (o : List Nat) (d : D) : D := .ftp (o.map (fun i => D.int (i : Nat)) ++ [d])
theorem ord_moreX (n : Nat) (o : List Nat) : ((nums n).filter (notIn o)).map (addX o) = (((List.range n).filter fun p => !decide (p ∈ o)).map fun p => o ++ [p]).map ordX := by
  unfold nums
  rw [List.filter_map, List.map_map, List.map_map]
  refine congr (congrArg _ (funext fun p => ?_)) (congrArg (fun f => List.filter f (List.range n)) (funext fun p => ?_))
  · show D.ftp _ = ordX _
    unfold ordX
    rw [List.map_append]
    rfl
  · rfl
theorem ordStep_appX (n : Nat) (a : List (List Nat)) (o : List Nat) : (ordStep n (a ++ [o])).map ordX = (ordStep n a).map ordX ++ (((List.range n).filter fun p => !decide (p ∈ o)).map fun p => o ++ [p]).map ordX := by
  unfold ordStep
  rw [List.flatMap_append, List.map_append]
  simp
def spPoss (C : Addr) : DC := fun ds M R => ∃ (r : Ru) (wd : Nat) (l : List Str) (p : Nat) (tx : D), ds = [namerD C r wd, tx, .int (p : Nat)] ∧ isTF tx (l.map D.str) ∧ 6 ≤ wd ∧ wd ≤ 40 ∧ l.length ≤ 6 ∧ (∀ z ∈ l, okText 200 z = true) ∧ p < l.length ∧ ∀ ys : List Str, ys.Perm (metS (posF r wd l p)) → sortedS ys = true → R (.tup (ys.map D.str)) M
section
variable {P : Program} {w : World} {K : PySem.W.Frag} {mg : Str → Option Value} {base : Heap}
def spOrdersX : DC := fun ds M R => ∃ n : Nat, ds = [.int (n : Nat)] ∧ n ≤ 6 ∧ R (.lst ((ordersF n n).map ordX)) M
theorem okD_orders_ofX (T : Tx K mg) : FnOk P w K mg base L2.CX0 lv_orders_of T.f_orders_of T.d_orders_of p_orders_of (lift (spOrdersX)) := by
  refine fnD T.F_orders_of sc_orders_of (fun ds M R h => ?_) (fun cdv A outer s H E hr => ?_)
  · first | (obtain ⟨rfl, _⟩ := h; rfl) | (obtain ⟨_, rfl, _⟩ := h; rfl) | (obtain ⟨_, _, rfl, _⟩ := h; rfl) | (obtain ⟨_, _, _, rfl, _⟩ := h; rfl) | (obtain ⟨_, _, _, _, rfl, _⟩ := h; rfl) | (obtain ⟨_, _, _, _, _, rfl, _⟩ := h; rfl) | (obtain ⟨_, _, _, _, _, _, rfl, _⟩ := h; rfl) | (obtain ⟨_, _, _, _, _, _, _, rfl, _⟩ := h; rfl) | (obtain ⟨_, _, _, _, _, _, _, _, rfl, _⟩ := h; rfl)
  · have hr64 := hr.units
    have hc_Namer := T.c_Namer
    have hi_Namer := T.i_Namer
    have hn_Namer_rule := T.na_Namer_rule
    have hn_Namer_width := T.na_Namer_width
    refine ⟨_, (pss_cons (ps_set (i := 1) sc_orders_of.nd rfl (by first | exact Or.inl rfl | exact Or.inr rfl) (pe_lst (pa_cons (pe_tupF pa_nil) pa_nil)))
        (pss_cons (ps_for PassesOwn.never rfl (pi_range1 rfl T.n_range (pa_cons (pv 0) pa_nil)) (pg_name (i := 2) sc_orders_of.nd rfl (by first | exact Or.inl rfl | exact Or.inr rfl)) (pss_one (ps_setLc2 (vs1 := [4]) (i := 1) (own := [("order", 3), ("place", 4)]) rfl sc_orders_of.nd rfl rfl (sw_true rfl rfl rfl (by decide +kernel)) (pi_listK (K := K) rfl (pv 1)) (blkOk_by (N := ["many", "found", "turn", "order", "place"]) (sc := L2.defScope s_orders_of) (by decide +kernel)) (by decide) (fun _ _ _ _ _ => (pg_name (i := 3) sc_orders_of.nd rfl (by first | exact Or.inl rfl | exact Or.inr rfl))) (fun _ _ _ _ _ => pts_nil) (fun _ _ _ _ _ => (pi_range1 rfl T.n_range (pa_cons (pv 0) pa_nil))) (fun _ _ _ _ _ => (pg_name (i := 4) sc_orders_of.nd rfl (by first | exact Or.inl rfl | exact Or.inr rfl))) (fun _ _ _ _ _ => (pts_one (pt_cmpR (op_ninK (K := K) rfl) (pv 4) (pv 3) (by rfl)))) (fun _ _ _ _ _ => (pe_tupF (pa_starK (K := K) rfl (pv 3) (pa_cons (pv 4) pa_nil)))))))
        (pss_one (ps_ret (pv 1))))), ?_⟩
    refine ⟨_, inferInstance, fun ds M R h => ?_⟩
    obtain ⟨n, rfl, hn, q⟩ := h
    walk_at "dw"
    refine ⟨by omega, by omega, trivial, ?_⟩
    refine loop_inv (fun i δ M' => M' = M ∧ ∃ u2 u3 u4, δ = [some (.int (n : Nat)), some (.lst ((ordersF n i).map ordX)), u2, u3, u4]) ⟨rfl, _, _, _, rfl⟩ ?_ ?_
    · rintro i x δ M' Kc hx ⟨rfl, u2, u3, u4, rfl⟩ hk
      rw [rg_nums] at hx
      obtain ⟨hi, rfl⟩ := nums_get hx
      walk_at "dw"
      refine x_lc2 ?_
      walk_at "dw"
      refine gather2_inv (fun j acc M2 => M2 = M' ∧ acc = (ordStep n ((ordersF n i).take j)).map ordX) ⟨rfl, rfl⟩ ?_ ?_
      · rintro j x acc _ Kn hx ⟨rfl, rfl⟩ hk2
        rw [List.getElem?_map] at hx
        obtain ⟨o, ho, rfl⟩ := Option.map_eq_some_iff.mp hx
        walk_at "dw"
        refine x_ia1 ?_
        walk_at "dw"
        refine ⟨by omega, by omega, ?_⟩
        refine in_map (p := notIn o) (f := addX o) ?_ ?_ ?_
        · rw [List.length_map, rg_nums, nums_length, sizeLine_eq]
          have l1 := ordStep_len n ((ordersF n i).take j)
          have l2 := orders_len hn i (by omega)
          have l3 : ((ordersF n i).take j).length ≤ (ordersF n i).length := by rw [List.length_take]; omega
          have l4 : n * ((ordersF n i).take j).length ≤ 6 * 7776 := Nat.mul_le_mul hn (by omega)
          omega
        · intro y hy Ky Kq h1 h2
          rw [rg_nums] at hy
          obtain ⟨m, hm, rfl⟩ := List.mem_map.mp hy
          walk_at "dw"
          refine in_ordX ?_
          by_cases c : m ∈ o
          · rw [decide_eq_true c]
            walk_at "dw"
            exact h2 (show (!decide (m ∈ o)) = false by rw [decide_eq_true c]; rfl)
          · rw [decide_eq_false c]
            walk_at "dw"
            refine ⟨_, .inl rfl, ?_⟩
            walk_at "dw"
            refine ⟨?_, h1 ?_⟩
            · have := (ord_mem i (List.mem_of_getElem? ho)).1
              rw [List.length_append, List.length_map, sizeLine_eq, this]
              simp only [List.length_singleton]
              omega
            exact (show (!decide (m ∈ o)) = true by rw [decide_eq_false c]; rfl)
        · rw [rg_nums, ord_moreX]
          refine hk2 _ _ trivial ⟨rfl, ?_⟩
          rw [take_snoc ho, ordStep_appX]
      · rintro acc _ ⟨rfl, rfl⟩
        walk_at "dw"
        rw [List.length_map, List.take_length]
        exact (hk _ _ trivial ⟨rfl, _, _, _, rfl⟩).2
    · rintro δ _ ⟨rfl, u2, u3, u4, rfl⟩
      walk_at "dw"
      rw [show (rgD 0 (n : Nat)).length = n by rw [rg_nums]; exact nums_length n]
      exact q
def spCheckTextsX : DC := fun ds M R => ∃ (l : List Str) (tx : D), ds = [tx] ∧ isTF tx (l.map D.str) ∧ l.length ≤ 6 ∧ (∀ z ∈ l, okText 200 z = true) ∧ R .non M
theorem ty_tf {M : Mem} {x : D} {xs : List D} (h : isTF x xs) : TyD K M x (.type "tuple") := by
  rcases tf_cases h with rfl | rfl
  · exact .tup _
  · exact .ftp _
theorem len_tf {M : Mem} {x : D} {xs : List D} {R : QD} (h : isTF x xs) (q : R (.int xs.length) M) : rLen1 [x] M R := by
  rcases tf_cases h with rfl | rfl
  · exact ⟨_, rfl, xs, .inr (.inl rfl), q⟩
  · exact ⟨_, rfl, xs, .inr (.inl rfl), q⟩
theorem ix_tf {M : Mem} {x d : D} {xs : List D} {i : Int} {R : QD} (h : isTF x xs) (e : atI xs i = some d) (q : R d M) : rIx1 x (.int i) M R := by
  rcases tf_cases h with rfl | rfl
  · exact ⟨xs, d, .inr (.inl rfl), e, q⟩
  · exact ⟨xs, d, .inr (.inl rfl), e, q⟩
theorem okD_check_textsX (T : Tx K mg) : FnOk P w K mg base L2.CX0 lv_check_texts T.f_check_texts T.d_check_texts p_check_texts (lift (spCheckTextsX)) := by
  refine fnD T.F_check_texts sc_check_texts (fun ds M R h => ?_) (fun cdv A outer s H E hr => ?_)
  · first | (obtain ⟨rfl, _⟩ := h; rfl) | (obtain ⟨_, rfl, _⟩ := h; rfl) | (obtain ⟨_, _, rfl, _⟩ := h; rfl) | (obtain ⟨_, _, _, rfl, _⟩ := h; rfl) | (obtain ⟨_, _, _, _, rfl, _⟩ := h; rfl) | (obtain ⟨_, _, _, _, _, rfl, _⟩ := h; rfl) | (obtain ⟨_, _, _, _, _, _, rfl, _⟩ := h; rfl) | (obtain ⟨_, _, _, _, _, _, _, rfl, _⟩ := h; rfl) | (obtain ⟨_, _, _, _, _, _, _, _, rfl, _⟩ := h; rfl)
  · have hr64 := hr.units
    have hc_Namer := T.c_Namer
    have hi_Namer := T.i_Namer
    have hn_Namer_rule := T.na_Namer_rule
    have hn_Namer_width := T.na_Namer_width
    refine ⟨_, (pss_cons (ps_if (PW.pt (pw_or (pt_not (pt_val (pe_callB (call_isiK (K := K) rfl) (by rfl) T.n_isinstance (by decide +kernel) (pa_cons (pv 0) (pa_cons (pe_bt "tuple" rfl T.n_tuple (by decide +kernel)) pa_nil))))) (pw_or1 (pt_cmpR op_gt (pe_callB (call_lenK (K := K) rfl) (by rfl) T.n_len (by decide +kernel) (pa_cons (pv 0) pa_nil)) (C8.pe_gc rfl T.k_MOST_LISTED) (nomark _))))) (pss_one ps_never) pss_nil)
        (pss_one (ps_for PassesOwn.never rfl (pi_enumT (K := K) rfl rfl T.n_enumerate (pa_cons (pv 0) pa_nil)) (pg_tupK (K := K) (n := 2) rfl rfl (pgs_cons (pg_name (i := 1) sc_check_texts.nd rfl (by first | exact Or.inl rfl | exact Or.inr rfl)) (pgs_cons (pg_name (i := 2) sc_check_texts.nd rfl (by first | exact Or.inl rfl | exact Or.inr rfl)) pgs_nil))) (pss_one (ps_if (pt_not (pt_val (pe_call (okD_is_text T) (hr.mono (by decide)) rfl T.m_is_text T.F_is_text.kp T.b_is_text .nil pass0 (pa_cons (pv 2) (pa_cons (C8.pe_gc rfl T.k_MOST_TEXT) pa_nil))))) (pss_one ps_never) pss_nil))))), ?_⟩
    refine ⟨_, inferInstance, fun ds M R h => ?_⟩
    obtain ⟨l, tx, rfl, htx, h6l, ho, q⟩ := h
    walk_at "dw"
    refine ⟨_, true, ty_tf htx, kit_ty (by decide +kernel), ?_⟩
    walk_at "dw"
    refine len_tf htx ?_
    walk_at "dw"
    refine ⟨tx, _, rfl, htx, trivial, ?_⟩
    refine loop_inv (fun i δ M' => M' = M ∧ ∃ u1 u2, δ = [some tx, u1, u2]) ⟨rfl, _, _, rfl⟩ ?_ ?_
    · rintro i x δ M' Kc hx ⟨rfl, u1, u2, rfl⟩ hk
      obtain ⟨z, hz, rfl⟩ : ∃ z, l[i]? = some z ∧ x = .tup [.int (i : Nat), .str z] := by
        have hl := (List.getElem?_eq_some_iff.mp hx).1
        rw [enumD_len, List.length_map] at hl
        have e := enumD_get (xs := l.map D.str) (i := i) (d := .str l[i]) (by rw [List.getElem?_map, List.getElem?_eq_getElem hl]; rfl)
        rw [e] at hx
        exact ⟨l[i], List.getElem?_eq_getElem hl, (Option.some.inj hx).symm⟩
      have oz := ho z (List.mem_of_getElem? hz)
      walk_at "dw"
      refine ⟨_, 200, rfl, .inl ⟨z, rfl, by have := (okText_iff.mp oz).1; omega, ?_⟩⟩
      rw [oz]
      walk_at "dw"
      exact (hk _ _ trivial ⟨rfl, _, _, rfl⟩).2
    · rintro δ M' ⟨rfl, u1, u2, rfl⟩
      walk_at "dw"
      exact q
theorem okD_possible_names (T : Tx K mg) : FnOk P w K mg base L2.CX0 lv_possible_names T.f_possible_names T.d_possible_names p_possible_names (lift (spPoss T.C_Namer)) := by
  refine fnDW T.F_possible_names sc_possible_names (fun ds M R h => ?_) (fun cdv A outer s H E hr => ?_)
  · first | (obtain ⟨rfl, _⟩ := h; rfl) | (obtain ⟨_, rfl, _⟩ := h; rfl) | (obtain ⟨_, _, rfl, _⟩ := h; rfl) | (obtain ⟨_, _, _, rfl, _⟩ := h; rfl) | (obtain ⟨_, _, _, _, rfl, _⟩ := h; rfl) | (obtain ⟨_, _, _, _, _, rfl, _⟩ := h; rfl) | (obtain ⟨_, _, _, _, _, _, rfl, _⟩ := h; rfl) | (obtain ⟨_, _, _, _, _, _, _, rfl, _⟩ := h; rfl) | (obtain ⟨_, _, _, _, _, _, _, _, rfl, _⟩ := h; rfl)
  · have hr64 := hr.units
    have hc_Namer := T.c_Namer
    have hi_Namer := T.i_Namer
    have hn_Namer_rule := T.na_Namer_rule
    have hn_Namer_width := T.na_Namer_width
    refine ⟨_, (pss_cons (ps_expr (pe_call (okD_check_namer T) (hr.mono (by decide)) rfl T.m_check_namer T.F_check_namer.kp T.b_check_namer .nil pass0 (pa_cons (pv 0) pa_nil)))
        (pss_cons (ps_expr (pe_call (okD_check_textsX (T := T)) (hr.mono (by decide)) rfl T.m_check_texts T.F_check_texts.kp T.b_check_texts .nil pass0 (pa_cons (pv 1) pa_nil)))
        (pss_cons (ps_if (PW.pt (pw_or (pt_not (pt_val (pe_call (okD_is_integer T) (hr.mono (by decide)) rfl T.m_is_integer T.F_is_integer.kp T.b_is_integer .nil pass0 (pa_cons (pv 2) pa_nil)))) (pw_or1 (pt_not (pt_chain op_le op_ltU pe_int (pv 2) (pe_callB (call_lenK (K := K) rfl) (by rfl) T.n_len (by decide +kernel) (pa_cons (pv 1) pa_nil))))))) (pss_one ps_never) pss_nil)
        (pss_cons (ps_set (i := 3) sc_possible_names.nd rfl (by first | exact Or.inl rfl | exact Or.inr rfl) (pe_lstM pa_nil))
        (pss_cons (ps_for PassesOwn.never rfl (pi_listK (K := K) rfl (pe_call (okD_orders_ofX (T := T)) (hr.mono (by decide)) rfl T.m_orders_of T.F_orders_of.kp T.b_orders_of .nil pass0 (pa_cons (pe_callB (call_lenK (K := K) rfl) (by rfl) T.n_len (by decide +kernel) (pa_cons (pv 1) pa_nil)) pa_nil))) (pg_name (i := 4) sc_possible_names.nd rfl (by first | exact Or.inl rfl | exact Or.inr rfl)) (pss_cons (ps_set (i := 5) sc_possible_names.nd rfl (by first | exact Or.inl rfl | exact Or.inr rfl) (pe_call (okD_names_of T) (hr.mono (by decide)) rfl T.m_names_of T.F_names_of.kp T.b_names_of .nil pass0 (pa_cons (pv 0) (pa_cons (pe_lc (own := [("each", 6)]) rfl sc_possible_names.nd (pi_tupK (K := K) rfl (pv 4)) (blkOk_by (N := ["namer", "texts", "place", "found", "order", "given", "each"]) (sc := L2.defScope s_possible_names) (by decide +kernel)) (fun _ _ _ _ _ => (pg_name (i := 6) sc_possible_names.nd rfl (by first | exact Or.inl rfl | exact Or.inr rfl))) (fun _ _ _ _ _ => pts_nil) (fun _ _ _ _ _ => (pe_ix (ix_K (K := K) rfl) (pv 1) (pv 6) (fun _ _ => rfl)))) pa_nil))))
        (pss_one (ps_expr (pe_bm PySem.F.plainAttrs_list PySem.F.slot_list_append PySem.F.type_list_append mt_append (pv 3) (pa_cons (pe_ix (ix_K (K := K) rfl) (pv 5) (pe_tidx (K := K) rfl (pv 4) (pa_cons (pv 2) pa_nil)) (fun _ _ => rfl)) pa_nil))))))
        (pss_one (ps_ret (pe_tupOfK (K := K) rfl rfl T.n_tuple (pe_sortSet (K := K) rfl rfl T.n_sorted rfl T.n_set (pv 3)))))))))), ?_⟩
    refine ⟨_, inferInstance, fun ds M R h => ?_⟩
    obtain ⟨r, wd, l, p, tx, rfl, htx, h6, h40, h6l, ho, hp, q⟩ := h
    walk_at "dw"
    refine ⟨r, wd, rfl, ?_⟩
    walk_at "dw"
    refine ⟨l, tx, rfl, htx, h6l, ho, ?_⟩
    walk_at "dw"
    refine ⟨_, rfl, _, .int _, by decide, true, rfl, ?_⟩
    walk_at "dw"
    refine len_tf htx ?_
    walk_at "dw"
    intro a ha
    walk_at "dw"
    refine len_tf htx ?_
    walk_at "dw"
    refine ⟨l.length, by rw [List.length_map], h6l, ?_⟩
    refine .inl ⟨_, rfl, trivial, ?_⟩
    refine loop_inv (fun i δ M' => M' = mset M a (.lst ((((ordersF l.length l.length).take i).map (givF r wd l p)).map D.str)) ∧ ∃ u4 u5 u6, δ = [some (namerD T.C_Namer r wd), some tx, some (.int (p : Nat)), some (.ptr a), u4, u5, u6]) ⟨rfl, _, _, _, rfl⟩ ?_ ?_
    · rintro i x δ M' Kc hx ⟨rfl, u4, u5, u6, rfl⟩ hk
      rw [List.getElem?_map] at hx
      obtain ⟨o, ho2, rfl⟩ := Option.map_eq_some_iff.mp hx
      have hm := List.mem_of_getElem? ho2
      obtain ⟨m1, m2, m3⟩ := ord_mem _ hm
      walk_at "dw"
      refine ⟨_, rfl, trivial, by rw [List.length_map]; omega, ?_⟩
      refine gather_perm (G := fun _ => True) m3 trivial (fun q hq Ky hy => ?_) ?_
      · walk_at "dw"
        exact ix_tf htx (atI_nat (at_perm hq)) hy
      have pl6 := permL_len l o
      walk_at "dw"
      refine .inr ⟨r, wd, permL l o, rfl, h6, h40, by omega, permL_ok ho m3, ?_⟩
      walk_at "dw"
      refine ⟨a, rfl, ⟨_, mset_same⟩, ?_⟩
      walk_at "dw"
      refine x_tidx ?_
      walk_at "dw"
      obtain ⟨i1, i2⟩ := idx_spec (ord_has hm hp)
      refine ⟨_, rfl, ?_⟩
      walk_at "dw"
      refine ⟨o.idxOf p, .inr ⟨o.map (fun i => ((i : Nat) : Int)), (p : Nat), rfl, by rw [List.map_map]; rfl, by rw [List.getElem?_map, i1]; rfl, fun m hm2 e => ?_⟩, ?_⟩
      · rw [List.getElem?_map] at e
        obtain ⟨x, hx2, e2⟩ := Option.map_eq_some_iff.mp e
        exact i2 m hm2 (by rw [hx2]; congr 1; omega)
      have g := givF_at (r := r) (wd := wd) (l := l) (ord_has hm hp)
      refine ⟨_, _, .inl rfl, atI_nat (by unfold namesD; rw [List.getElem?_map, g]; rfl), ?_⟩
      walk_at "dw"
      refine ⟨_, _, rfl, mset_same, ?_, ?_⟩
      · have := ord_len h6l
        rw [List.length_map, List.length_map, List.length_take, sizeLine_eq]
        omega
      rw [mset_set]
      refine hk _ _ trivial ⟨?_, _, _, _, rfl⟩
      rw [take_snoc ho2, List.map_append, List.map_append]
      rfl
    · rintro δ M' ⟨rfl, u4, u5, u6, rfl⟩
      rw [List.length_map, List.take_length]
      walk_at "dw"
      refine x_sortSet ?_
      walk_at "dw"
      refine ⟨posF r wd l p, .inl (.inr ⟨a, rfl, mset_same⟩), ?_, pos_few h6l hp, fun ys y1 y2 => ?_⟩
      · unfold posF
        have := ord_len h6l
        rw [List.length_map]
        omega
      walk_at "dw"
      exact ⟨M, mle_set ha, q ys y1 y2⟩
end
end G
namespace G
open PySem PySem.Spec PyProof.Rows L2 U V
def spRightX {K : PySem.W.Frag} {mg : Str → Option Value} (T : Tx K mg) : DC := fun ds M R => ∃ p, ds = [potD p] ∧ TMs T M ∧ R (.bl true) M
section
variable {P : Program} {w : World} {K : PySem.W.Frag} {mg : Str → Option Value} {base : Heap}
theorem okE_InvalidTexts___init__ (T : Tx K mg) : FnOk P w K mg base L2.CX0 lv_InvalidTexts___init__ T.f_InvalidTexts___init__ T.d_InvalidTexts___init__ p_InvalidTexts___init__ (spExI T.C_InvalidTexts "index") := by
  refine T.F_InvalidTexts___init__.ok sc_InvalidTexts___init__ (fun vs H Q E h => ?_) (fun cdv A outer s H vs Q E hr h => ?_)
  · obtain ⟨a, y, rfl, _⟩ := h
    rfl
  · obtain ⟨a, y, rfl, ha, q⟩ := h
    refine ⟨_, pss_one (ps_ost (pv 0) (pv 1)), ?_⟩
    exact ⟨y, rfl, .ref a, rfl, a, T.C_InvalidTexts, rfl, T.o_InvalidTexts, T.na_InvalidTexts_index, .inl ⟨ha, fun dx nd ne => q dx nd ne⟩⟩
theorem ty_int {K : PySem.W.Frag} {M : Mem} {d : D} (h : TyD K M d (.type "int")) : ∃ i, d = .int i := by
  generalize e : Value.type "int" = t at h
  cases h <;> first | exact ⟨_, rfl⟩ | (injection e with e; exact absurd e (by decide)) | cases e
/-- a value that is no mark: a text that is none, or something else -/
def BadT (K : PySem.W.Frag) (M : Mem) (n : Nat) (d : D) : Prop := (∃ z, d = .str z ∧ z.length ≤ 16777216 ∧ okText n z = false) ∨ ∃ t : String, TyD K M d (.type t) ∧ t ∈ tyNames ∧ t ≠ "str"
theorem badT_is {K : PySem.W.Frag} {M : Mem} {n : Nat} {d : D} {R : QD} (h : BadT K M n d) (q : R (.bl false) M) : spIsText K [d, .int n] M R := by
  rcases h with ⟨z, rfl, hz, e⟩ | ⟨t, ty, ht, hs⟩
  · exact ⟨_, n, rfl, .inl ⟨z, rfl, hz, by rw [e]; exact q⟩⟩
  · exact ⟨_, n, rfl, .inr ⟨t, ty, ht, hs, q⟩⟩
theorem badT_str {K : PySem.W.Frag} {M : Mem} {n : Nat} {z : Str} (h : okText n z = false) (hz : z.length ≤ 16777216) : BadT K M n (.str z) := .inl ⟨z, rfl, hz, h⟩
theorem badT_of {K : PySem.W.Frag} {M : Mem} {n : Nat} {d : D} (t : String) (ty : TyD K M d (.type t)) (ht : t ∈ tyNames) (h : t ≠ "str") : BadT K M n d := .inr ⟨t, ty, ht, h⟩
theorem enum_get {xs : List D} {i : Nat} {x : D} (h : (enumD xs)[i]? = some x) : ∃ y, xs[i]? = some y ∧ x = .tup [.int (i : Nat), y] := by
  unfold enumD at h
  rw [List.getElem?_mapIdx] at h
  cases hr : xs[i]? with
  | none => rw [hr] at h; cases h
  | some y => rw [hr] at h; cases h; exact ⟨y, rfl, rfl⟩
theorem ty_ne {t s : String} (ht : t ∈ tyNames) (hs : s ∈ ["list", "tuple", "str", "dict"]) (n : t ≠ s) : kitB t s = some false := by
  have : ∀ s ∈ (["list", "tuple", "str", "dict"] : List String), ∀ t ∈ tyNames, t ≠ s → kitB t s = some false := by decide +kernel
  exact this s hs t ht n
end
end G
namespace G
open PySem PySem.Spec PyProof.Rows L2 U V
section
variable {P : Program} {w : World} {K : PySem.W.Frag} {mg : Str → Option Value} {base : Heap}
structure RfX (T : Tx K mg) (C : Addr) (k : Nat) : Prop where
  ex : L2.ExcC K C
  xf : XfC K C
  k0 : PySem.W.kitOne K (.ref C) (.ref T.C_InvalidNumber) = some (decide (k = 0))
  k1 : PySem.W.kitOne K (.ref C) (.ref T.C_InvalidMark) = some (decide (k = 1))
  k2 : PySem.W.kitOne K (.ref C) (.ref T.C_InvalidText) = some (decide (k = 2))
  k3 : PySem.W.kitOne K (.ref C) (.ref T.C_InvalidLength) = some (decide (k = 3))
  k4 : PySem.W.kitOne K (.ref C) (.ref T.C_InvalidRule) = some (decide (k = 4))
  k5 : PySem.W.kitOne K (.ref C) (.ref T.C_InvalidWidth) = some (decide (k = 5))
  k6 : PySem.W.kitOne K (.ref C) (.ref T.C_InvalidPlace) = some (decide (k = 6))
  k7 : PySem.W.kitOne K (.ref C) (.ref T.C_InvalidLine) = some (decide (k = 7))
  k8 : PySem.W.kitOne K (.ref C) (.ref T.C_NotANamer) = some (decide (k = 8))
  k9 : PySem.W.kitOne K (.ref C) (.ref T.C_NotAShelf) = some (decide (k = 9))
  k10 : PySem.W.kitOne K (.ref C) (.ref T.C_InvalidRow) = some (decide (k = 10))
  k11 : PySem.W.kitOne K (.ref C) (.ref T.C_InvalidViews) = some (decide (k = 11))
  k12 : PySem.W.kitOne K (.ref C) (.ref T.C_InvalidTexts) = some (decide (k = 12))
  k13 : PySem.W.kitOne K (.ref C) (.ref T.C_InvalidDeeds) = some (decide (k = 13))
  k14 : PySem.W.kitOne K (.ref C) (.ref T.C_NothingToUndo) = some (decide (k = 14))
  k15 : PySem.W.kitOne K (.ref C) (.ref T.C_Busy) = some (decide (k = 15))
  k16 : PySem.W.kitOne K (.ref C) (.ref T.C_UnknownName) = some (decide (k = 16))
  k17 : PySem.W.kitOne K (.ref C) (.ref T.C_TooMany) = some (decide (k = 17))
  k18 : PySem.W.kitOne K (.ref C) (.ref T.C_InputError) = some (decide (k < 14))
  k19 : PySem.W.kitOne K (.ref C) (.ref T.C_StateError) = some ((decide (13 < k) && decide (k < 17)))
  k20 : PySem.W.kitOne K (.ref C) (.ref T.C_SizeError) = some (decide (k = 17))
  k21 : PySem.W.kitOne K (.ref C) (.type "ValueError") = some (decide (k < 14))
  k22 : PySem.W.kitOne K (.ref C) (.type "LookupError") = some ((decide (13 < k) && decide (k < 17)))
  k23 : PySem.W.kitOne K (.ref C) (.type "ArithmeticError") = some (decide (k = 17))
theorem rf_NotANamer (T : Tx K mg) : RfX T T.C_NotANamer 8 := ⟨T.ex_NotANamer, T.xf_NotANamer, T.kr_NotANamer_0, T.kr_NotANamer_1, T.kr_NotANamer_2, T.kr_NotANamer_3, T.kr_NotANamer_4, T.kr_NotANamer_5, T.kr_NotANamer_6, T.kr_NotANamer_7, T.kr_NotANamer_8, T.kr_NotANamer_9, T.kr_NotANamer_10, T.kr_NotANamer_11, T.kr_NotANamer_12, T.kr_NotANamer_13, T.kr_NotANamer_14, T.kr_NotANamer_15, T.kr_NotANamer_16, T.kr_NotANamer_17, T.kr_NotANamer_18, T.kr_NotANamer_19, T.kr_NotANamer_20, T.kr_NotANamer_21, T.kr_NotANamer_22, T.kr_NotANamer_23⟩
theorem any_NotANamer (T : Tx K mg) : PySem.W.exmAny K (.ref T.C_NotANamer) [.ref T.C_InputError, .ref T.C_StateError, .ref T.C_SizeError] = some true := by
  simp only [PySem.W.exmAny, T.eh_NotANamer_InputError, T.eh_NotANamer_StateError, T.eh_NotANamer_SizeError, Bool.or_false, Bool.or_true, Bool.true_or, Bool.false_or]
theorem rf_InvalidTexts (T : Tx K mg) : RfX T T.C_InvalidTexts 12 := ⟨T.ex_InvalidTexts, T.xf_InvalidTexts, T.kr_InvalidTexts_0, T.kr_InvalidTexts_1, T.kr_InvalidTexts_2, T.kr_InvalidTexts_3, T.kr_InvalidTexts_4, T.kr_InvalidTexts_5, T.kr_InvalidTexts_6, T.kr_InvalidTexts_7, T.kr_InvalidTexts_8, T.kr_InvalidTexts_9, T.kr_InvalidTexts_10, T.kr_InvalidTexts_11, T.kr_InvalidTexts_12, T.kr_InvalidTexts_13, T.kr_InvalidTexts_14, T.kr_InvalidTexts_15, T.kr_InvalidTexts_16, T.kr_InvalidTexts_17, T.kr_InvalidTexts_18, T.kr_InvalidTexts_19, T.kr_InvalidTexts_20, T.kr_InvalidTexts_21, T.kr_InvalidTexts_22, T.kr_InvalidTexts_23⟩
theorem any_InvalidTexts (T : Tx K mg) : PySem.W.exmAny K (.ref T.C_InvalidTexts) [.ref T.C_InputError, .ref T.C_StateError, .ref T.C_SizeError] = some true := by
  simp only [PySem.W.exmAny, T.eh_InvalidTexts_InputError, T.eh_InvalidTexts_StateError, T.eh_InvalidTexts_SizeError, Bool.or_false, Bool.or_true, Bool.true_or, Bool.false_or]
theorem rf_InvalidPlace (T : Tx K mg) : RfX T T.C_InvalidPlace 6 := ⟨T.ex_InvalidPlace, T.xf_InvalidPlace, T.kr_InvalidPlace_0, T.kr_InvalidPlace_1, T.kr_InvalidPlace_2, T.kr_InvalidPlace_3, T.kr_InvalidPlace_4, T.kr_InvalidPlace_5, T.kr_InvalidPlace_6, T.kr_InvalidPlace_7, T.kr_InvalidPlace_8, T.kr_InvalidPlace_9, T.kr_InvalidPlace_10, T.kr_InvalidPlace_11, T.kr_InvalidPlace_12, T.kr_InvalidPlace_13, T.kr_InvalidPlace_14, T.kr_InvalidPlace_15, T.kr_InvalidPlace_16, T.kr_InvalidPlace_17, T.kr_InvalidPlace_18, T.kr_InvalidPlace_19, T.kr_InvalidPlace_20, T.kr_InvalidPlace_21, T.kr_InvalidPlace_22, T.kr_InvalidPlace_23⟩
theorem any_InvalidPlace (T : Tx K mg) : PySem.W.exmAny K (.ref T.C_InvalidPlace) [.ref T.C_InputError, .ref T.C_StateError, .ref T.C_SizeError] = some true := by
  simp only [PySem.W.exmAny, T.eh_InvalidPlace_InputError, T.eh_InvalidPlace_StateError, T.eh_InvalidPlace_SizeError, Bool.or_false, Bool.or_true, Bool.true_or, Bool.false_or]
def rfWords : List Str := ["number", "mark", "text", "length", "rule", "width", "place", "line", "namer", "shelf", "row", "views", "texts", "deeds", "nothing", "busy", "unknown", "many"]
def rfWord (k : Nat) : Str := (rfWords[k]?).getD Str.empty
def rfAttr (k : Nat) : Str := if k = 17 then Str.ofString "limit" else if 9 < k ∧ k < 14 then Str.ofString "index" else Str.ofString "value"
def rowsB (k : Nat) : List Bool := [decide (k = 0), decide (k = 1), decide (k = 2), decide (k = 3), decide (k = 4), decide (k = 5), decide (k = 6), decide (k = 7), decide (k = 8), decide (k = 9), decide (k = 10), decide (k = 11), decide (k = 12), decide (k = 13), decide (k = 14), decide (k = 15), decide (k = 16), decide (k = 17)]
def spRefuse (T : Tx K mg) : DC := fun ds M R => ∃ (a C : Addr) (fs : List (Str × D)) (k : Nat), ds = [.ptr a] ∧ M a = some (.xob C fs) ∧ RfX T C k ∧ k < 18 ∧ (k = 14 ∨ k = 15 → R (.tup [.str (rfWord k)]) M) ∧
  (k ≠ 14 → k ≠ 15 → ∃ y, fs = [(rfAttr k, y)] ∧ PySem.W.findIn K (.ref C) (rfAttr k) = some none ∧ R (.tup [.str (rfWord k), y]) M)
theorem eqbs_bl : ∀ bs cs : List Bool, D.eqbs (bs.map D.bl) (cs.map D.bl) = decide (bs = cs)
  | [], [] => by simp [D.eqbs]
  | [], c :: cs => by simp [D.eqbs]
  | b :: bs, [] => by simp [D.eqbs]
  | b :: bs, c :: cs => by
    rw [List.map_cons, List.map_cons, D.eqbs, eqbs_bl bs cs]
    cases b <;> cases c <;> by_cases e : bs = cs <;> simp [D.eqb, e]
theorem ne_bools {bs cs : List Bool} {M : Mem} {R : QD} (q : R (.bl (!decide (bs = cs))) M) : rNe1 (.lst (bs.map D.bl)) (.lst (cs.map D.bl)) M R := by
  have E : ∀ l : List Bool, EqOk (.lst (l.map D.bl)) := fun l => EqOk.of (okPs.list (okPs.all (W := 8) (k := 0) fun d hd => by
    obtain ⟨p, hp, rfl⟩ := List.mem_map.mp hd
    exact ⟨_, by rw [D.py], (PyOk.bl p).mono (Nat.zero_le _) (Nat.zero_le _)⟩)) (by decide)
  show EqOk _ ∧ EqOk _ ∧ R (.bl (!D.eqb (.lst (bs.map D.bl)) (.lst (cs.map D.bl)))) M
  refine ⟨E bs, E cs, ?_⟩
  rw [show D.eqb (.lst (bs.map D.bl)) (.lst (cs.map D.bl)) = D.eqbs (bs.map D.bl) (cs.map D.bl) by rw [D.eqb], eqbs_bl]
  exact q
theorem in_1415 {k : Nat} {M : Mem} {R : QD} (q : R (.bl (decide (k = 14 ∨ k = 15))) M) : rIn1 (.int (k : Nat)) (.lst [.int 14, .int 15]) M R := by
  refine ⟨_, .inl rfl, rfl, rfl, ?_⟩
  have e : ([D.int 14, D.int 15].any fun e => D.eqb e (.int (k : Nat))) = decide (k = 14 ∨ k = 15) := by
    rw [List.any_cons, List.any_cons, List.any_nil, show D.eqb (.int 14) (.int (k : Nat)) = decide ((14 : Int) = k) by rw [D.eqb]; rfl, show D.eqb (.int 15) (.int (k : Nat)) = decide ((15 : Int) = k) by rw [D.eqb]; rfl, Bool.or_false, ← Bool.decide_or]
    exact decide_eq_decide.mpr (by omega)
  rw [e]
  exact q
theorem word_at {k : Nat} (hk : k < 18) : (rfWords.map D.str)[k]? = some (.str (rfWord k)) := by
  have h : rfWords[k]? = some rfWords[k] := List.getElem?_eq_getElem (l := rfWords) (i := k) hk
  rw [List.getElem?_map, h]
  unfold rfWord
  rw [h]
  rfl
def underB (k : Nat) : List Bool := [decide (k < 14), decide (13 < k) && decide (k < 17), decide (k = 17)]
theorem isx_c {a C A : Addr} {fs : List (Str × D)} {b : Bool} {M : Mem} {R : QD} (ha : M a = some (.xob C fs)) (E : ExcC K C) (k : PySem.W.kitOne K (.ref C) (.ref A) = some b) (q : R (.bl b) M) : rIsXD K [.ptr a, .ptr A] M R := ⟨a, C, fs, _, _, b, rfl, ha, E, .inl ⟨A, rfl, rfl⟩, k, q⟩
theorem isx_t {a C : Addr} {n : String} {fs : List (Str × D)} {b : Bool} {M : Mem} {R : QD} (ha : M a = some (.xob C fs)) (E : ExcC K C) (k : PySem.W.kitOne K (.ref C) (.type n) = some b) (q : R (.bl b) M) : rIsXD K [.ptr a, .ty n] M R := ⟨a, C, fs, _, _, b, rfl, ha, E, .inr ⟨n, rfl, rfl⟩, k, q⟩
theorem okQ__law_refusal (T : Tx K mg) : FnQ P w K mg base lv__law_refusal T.f__law_refusal T.d__law_refusal p__law_refusal (lift (spRefuse T)) := by
  refine fnQD T.F__law_refusal sc__law_refusal (fun ds M R h => ?_) (fun cdv A outer s H E hr => ?_)
  · first | (obtain ⟨rfl, _⟩ := h; rfl) | (obtain ⟨_, rfl, _⟩ := h; rfl) | (obtain ⟨_, _, rfl, _⟩ := h; rfl) | (obtain ⟨_, _, _, rfl, _⟩ := h; rfl) | (obtain ⟨_, _, _, _, rfl, _⟩ := h; rfl) | (obtain ⟨_, _, _, _, _, rfl, _⟩ := h; rfl) | (obtain ⟨_, _, _, _, _, _, rfl, _⟩ := h; rfl) | (obtain ⟨_, _, _, _, _, _, _, rfl, _⟩ := h; rfl) | (obtain ⟨_, _, _, _, _, _, _, _, rfl, _⟩ := h; rfl)
  · have hr64 := roomH_units hr
    have hc_Namer := T.c_Namer
    have hi_Namer := T.i_Namer
    have hn_Namer_rule := T.na_Namer_rule
    have hn_Namer_width := T.na_Namer_width
    refine ⟨_, (pss_cons (ps_set (i := 1) sc__law_refusal.nd rfl (by first | exact Or.inl rfl | exact Or.inr rfl) (pe_lst (pa_cons (pe_callB (call_isX (K := K) rfl) (by rfl) T.n_isinstance (by decide +kernel) (pa_cons (pv 0) (pa_cons (pe_gref rfl T.m_InvalidNumber) pa_nil))) (pa_cons (pe_callB (call_isX (K := K) rfl) (by rfl) T.n_isinstance (by decide +kernel) (pa_cons (pv 0) (pa_cons (pe_gref rfl T.m_InvalidMark) pa_nil))) (pa_cons (pe_callB (call_isX (K := K) rfl) (by rfl) T.n_isinstance (by decide +kernel) (pa_cons (pv 0) (pa_cons (pe_gref rfl T.m_InvalidText) pa_nil))) pa_nil)))))
        (pss_cons (ps_set (i := 1) sc__law_refusal.nd rfl (by first | exact Or.inl rfl | exact Or.inr rfl) (pe_op op_addU (pv 1) (pe_lst (pa_cons (pe_callB (call_isX (K := K) rfl) (by rfl) T.n_isinstance (by decide +kernel) (pa_cons (pv 0) (pa_cons (pe_gref rfl T.m_InvalidLength) pa_nil))) (pa_cons (pe_callB (call_isX (K := K) rfl) (by rfl) T.n_isinstance (by decide +kernel) (pa_cons (pv 0) (pa_cons (pe_gref rfl T.m_InvalidRule) pa_nil))) (pa_cons (pe_callB (call_isX (K := K) rfl) (by rfl) T.n_isinstance (by decide +kernel) (pa_cons (pv 0) (pa_cons (pe_gref rfl T.m_InvalidWidth) pa_nil))) pa_nil))))))
        (pss_cons (ps_set (i := 1) sc__law_refusal.nd rfl (by first | exact Or.inl rfl | exact Or.inr rfl) (pe_op op_addU (pv 1) (pe_lst (pa_cons (pe_callB (call_isX (K := K) rfl) (by rfl) T.n_isinstance (by decide +kernel) (pa_cons (pv 0) (pa_cons (pe_gref rfl T.m_InvalidPlace) pa_nil))) (pa_cons (pe_callB (call_isX (K := K) rfl) (by rfl) T.n_isinstance (by decide +kernel) (pa_cons (pv 0) (pa_cons (pe_gref rfl T.m_InvalidLine) pa_nil))) (pa_cons (pe_callB (call_isX (K := K) rfl) (by rfl) T.n_isinstance (by decide +kernel) (pa_cons (pv 0) (pa_cons (pe_gref rfl T.m_NotANamer) pa_nil))) pa_nil))))))
        (pss_cons (ps_set (i := 1) sc__law_refusal.nd rfl (by first | exact Or.inl rfl | exact Or.inr rfl) (pe_op op_addU (pv 1) (pe_lst (pa_cons (pe_callB (call_isX (K := K) rfl) (by rfl) T.n_isinstance (by decide +kernel) (pa_cons (pv 0) (pa_cons (pe_gref rfl T.m_NotAShelf) pa_nil))) (pa_cons (pe_callB (call_isX (K := K) rfl) (by rfl) T.n_isinstance (by decide +kernel) (pa_cons (pv 0) (pa_cons (pe_gref rfl T.m_InvalidRow) pa_nil))) (pa_cons (pe_callB (call_isX (K := K) rfl) (by rfl) T.n_isinstance (by decide +kernel) (pa_cons (pv 0) (pa_cons (pe_gref rfl T.m_InvalidViews) pa_nil))) pa_nil))))))
        (pss_cons (ps_set (i := 1) sc__law_refusal.nd rfl (by first | exact Or.inl rfl | exact Or.inr rfl) (pe_op op_addU (pv 1) (pe_lst (pa_cons (pe_callB (call_isX (K := K) rfl) (by rfl) T.n_isinstance (by decide +kernel) (pa_cons (pv 0) (pa_cons (pe_gref rfl T.m_InvalidTexts) pa_nil))) (pa_cons (pe_callB (call_isX (K := K) rfl) (by rfl) T.n_isinstance (by decide +kernel) (pa_cons (pv 0) (pa_cons (pe_gref rfl T.m_InvalidDeeds) pa_nil))) (pa_cons (pe_callB (call_isX (K := K) rfl) (by rfl) T.n_isinstance (by decide +kernel) (pa_cons (pv 0) (pa_cons (pe_gref rfl T.m_NothingToUndo) pa_nil))) pa_nil))))))
        (pss_cons (ps_set (i := 1) sc__law_refusal.nd rfl (by first | exact Or.inl rfl | exact Or.inr rfl) (pe_op op_addU (pv 1) (pe_lst (pa_cons (pe_callB (call_isX (K := K) rfl) (by rfl) T.n_isinstance (by decide +kernel) (pa_cons (pv 0) (pa_cons (pe_gref rfl T.m_Busy) pa_nil))) (pa_cons (pe_callB (call_isX (K := K) rfl) (by rfl) T.n_isinstance (by decide +kernel) (pa_cons (pv 0) (pa_cons (pe_gref rfl T.m_UnknownName) pa_nil))) (pa_cons (pe_callB (call_isX (K := K) rfl) (by rfl) T.n_isinstance (by decide +kernel) (pa_cons (pv 0) (pa_cons (pe_gref rfl T.m_TooMany) pa_nil))) pa_nil))))))
        (pss_cons (ps_set (i := 2) sc__law_refusal.nd rfl (by first | exact Or.inl rfl | exact Or.inr rfl) (pe_lst (pa_cons (pe_callB (call_isX (K := K) rfl) (by rfl) T.n_isinstance (by decide +kernel) (pa_cons (pv 0) (pa_cons (pe_gref rfl T.m_InputError) pa_nil))) (pa_cons (pe_callB (call_isX (K := K) rfl) (by rfl) T.n_isinstance (by decide +kernel) (pa_cons (pv 0) (pa_cons (pe_gref rfl T.m_StateError) pa_nil))) (pa_cons (pe_callB (call_isX (K := K) rfl) (by rfl) T.n_isinstance (by decide +kernel) (pa_cons (pv 0) (pa_cons (pe_gref rfl T.m_SizeError) pa_nil))) pa_nil)))))
        (pss_cons (ps_set (i := 3) sc__law_refusal.nd rfl (by first | exact Or.inl rfl | exact Or.inr rfl) (pe_lst (pa_cons (pe_callB (call_isX (K := K) rfl) (by rfl) T.n_isinstance (by decide +kernel) (pa_cons (pv 0) (pa_cons (pe_bt "ValueError" rfl T.n_ValueError (by decide +kernel)) pa_nil))) (pa_cons (pe_callB (call_isX (K := K) rfl) (by rfl) T.n_isinstance (by decide +kernel) (pa_cons (pv 0) (pa_cons (pe_bt "LookupError" rfl T.n_LookupError (by decide +kernel)) pa_nil))) (pa_cons (pe_callB (call_isX (K := K) rfl) (by rfl) T.n_isinstance (by decide +kernel) (pa_cons (pv 0) (pa_cons (pe_bt "ArithmeticError" rfl T.n_ArithmeticError (by decide +kernel)) pa_nil))) pa_nil)))))
        (pss_cons (ps_if (PW.pt (pw_or (pt_cmpR (op_neA (K := K) rfl hr64) (pe_bm PySem.F.plainAttrs_list PySem.F.slot_list_count PySem.F.type_list_count mt_countF (pv 1) (pa_cons pe_bl pa_nil)) pe_int (nomark _)) (pw_or1 (pt_cmpR (op_neA (K := K) rfl hr64) (pv 2) (pv 3) (nomark _))))) (pss_one (ps_ret (pe_tup (pa_cons pe_str pa_nil)))) pss_nil)
        (pss_cons (ps_set (i := 4) sc__law_refusal.nd rfl (by first | exact Or.inl rfl | exact Or.inr rfl) (pe_bm PySem.F.plainAttrs_list PySem.F.slot_list_index PySem.F.type_list_index mt_index (pv 1) (pa_cons pe_bl pa_nil)))
        (pss_cons (ps_if (pt_cmpR (op_neA (K := K) rfl hr64) (pv 2) (pe_lst (pa_cons (pe_cmpR op_ltU (pv 4) pe_int (nomark _)) (pa_cons (pe_chain op_ltU op_ltU pe_int (pv 4) pe_int) (pa_cons (pe_cmpR (op_eqA (K := K) rfl hr64) (pv 4) pe_int (nomark _)) pa_nil)))) (nomark _)) (pss_one (ps_ret (pe_tup (pa_cons pe_str pa_nil)))) pss_nil)
        (pss_cons (ps_set (i := 5) sc__law_refusal.nd rfl (by first | exact Or.inl rfl | exact Or.inr rfl) (pe_lst (pa_cons pe_str (pa_cons pe_str (pa_cons pe_str (pa_cons pe_str (pa_cons pe_str (pa_cons pe_str (pa_cons pe_str (pa_cons pe_str (pa_cons pe_str (pa_cons pe_str (pa_cons pe_str (pa_cons pe_str pa_nil))))))))))))))
        (pss_cons (ps_set (i := 5) sc__law_refusal.nd rfl (by first | exact Or.inl rfl | exact Or.inr rfl) (pe_op op_addU (pv 5) (pe_lst (pa_cons pe_str (pa_cons pe_str (pa_cons pe_str (pa_cons pe_str (pa_cons pe_str (pa_cons pe_str pa_nil)))))))))
        (pss_cons (ps_if (pt_cmpR (op_inK (K := K) rfl) (pv 4) (pe_lst (pa_cons pe_int (pa_cons pe_int pa_nil))) (by rfl)) (pss_one (ps_ret (pe_tup (pa_cons (pe_ix (ix_K (K := K) rfl) (pv 5) (pv 4) (fun _ _ => rfl)) pa_nil)))) pss_nil)
        (pss_cons (ps_if (pt_cmpR (op_eqA (K := K) rfl hr64) (pv 4) pe_int (nomark _)) (pss_one (ps_ret (pe_tup (pa_cons (pe_ix (ix_K (K := K) rfl) (pv 5) (pv 4) (fun _ _ => rfl)) (pa_cons (pe_xfT (K := K) rfl (pv 0)) pa_nil))))) pss_nil)
        (pss_one (ps_ret (pe_ifExp (pt_chain op_ltU op_ltU pe_int (pv 4) pe_int) (pe_tup (pa_cons (pe_ix (ix_K (K := K) rfl) (pv 5) (pv 4) (fun _ _ => rfl)) (pa_cons (pe_xfT (K := K) rfl (pv 0)) pa_nil))) (pe_tup (pa_cons (pe_ix (ix_K (K := K) rfl) (pv 5) (pv 4) (fun _ _ => rfl)) (pa_cons (pe_xfT (K := K) rfl (pv 0)) pa_nil))))))))))))))))))))), ?_⟩
    refine ⟨_, inferInstance, fun ds M R h => ?_⟩
    obtain ⟨a, C, fs, k, rfl, ha, F, hk, q1, q2⟩ := h
    rw [st__law_refusal]
    walk_at "dx"
    refine isx_c ha F.ex F.k0 ?_
    walk_at "dx"
    refine isx_c ha F.ex F.k1 ?_
    walk_at "dx"
    refine isx_c ha F.ex F.k2 ?_
    walk_at "dx"
    refine isx_c ha F.ex F.k3 ?_
    walk_at "dx"
    refine isx_c ha F.ex F.k4 ?_
    walk_at "dx"
    refine isx_c ha F.ex F.k5 ?_
    walk_at "dx"
    refine V.x_addL ⟨by simp [sizeLine_eq], ?_⟩
    walk_at "dx"
    refine isx_c ha F.ex F.k6 ?_
    walk_at "dx"
    refine isx_c ha F.ex F.k7 ?_
    walk_at "dx"
    refine isx_c ha F.ex F.k8 ?_
    walk_at "dx"
    refine V.x_addL ⟨by simp [sizeLine_eq], ?_⟩
    walk_at "dx"
    refine isx_c ha F.ex F.k9 ?_
    walk_at "dx"
    refine isx_c ha F.ex F.k10 ?_
    walk_at "dx"
    refine isx_c ha F.ex F.k11 ?_
    walk_at "dx"
    refine V.x_addL ⟨by simp [sizeLine_eq], ?_⟩
    walk_at "dx"
    refine isx_c ha F.ex F.k12 ?_
    walk_at "dx"
    refine isx_c ha F.ex F.k13 ?_
    walk_at "dx"
    refine isx_c ha F.ex F.k14 ?_
    walk_at "dx"
    refine V.x_addL ⟨by simp [sizeLine_eq], ?_⟩
    walk_at "dx"
    refine isx_c ha F.ex F.k15 ?_
    walk_at "dx"
    refine isx_c ha F.ex F.k16 ?_
    walk_at "dx"
    refine isx_c ha F.ex F.k17 ?_
    walk_at "dx"
    refine V.x_addL ⟨by simp [sizeLine_eq], ?_⟩
    walk_at "dx"
    refine isx_c ha F.ex F.k18 ?_
    walk_at "dx"
    refine isx_c ha F.ex F.k19 ?_
    walk_at "dx"
    refine isx_c ha F.ex F.k20 ?_
    walk_at "dx"
    refine isx_t ha F.ex F.k21 ?_
    walk_at "dx"
    refine isx_t ha F.ex F.k22 ?_
    walk_at "dx"
    refine isx_t ha F.ex F.k23 ?_
    walk_at "dx"
    refine x_cntB ?_
    walk_at "dx"
    refine ⟨rowsB k, rfl, ?_⟩
    walk_at "dx"
    refine ⟨true, rfl, ?_⟩
    walk_at "dx"
    rw [show (rowsB k).count true = 1 from (show ∀ k, k < 18 → (rowsB k).count true = 1 by decide) k hk]
    walk_at "dx"
    refine ne_bools (bs := underB k) (cs := underB k) ?_
    rw [decide_eq_true rfl]
    walk_at "dx"
    refine x_idxB ?_
    walk_at "dx"
    refine ⟨rowsB k, rfl, ?_⟩
    walk_at "dx"
    refine ⟨true, rfl, (show ∀ k, k < 18 → true ∈ rowsB k by decide) k hk, ?_⟩
    rw [show (rowsB k).idxOf true = k from (show ∀ k, k < 18 → (rowsB k).idxOf true = k by decide) k hk]
    walk_at "dx"
    have e14 : decide ((k : Int) < 14) = decide (k < 14) := decide_eq_decide.mpr (by omega)
    have e17 : decide ((k : Int) = 17) = decide (k = 17) := decide_eq_decide.mpr (by omega)
    by_cases h13 : 13 < k
    · rw [decide_eq_true (show (13 : Int) < (k : Nat) by omega), if_pos rfl]
      walk_at "dx"
      refine ne_bools (bs := underB k) (cs := [decide ((k : Int) < 14), decide ((k : Int) < 17), decide ((k : Int) = 17)]) ?_
      rw [show underB k = [decide ((k : Int) < 14), decide ((k : Int) < 17), decide ((k : Int) = 17)] by
        unfold underB
        rw [e14, e17, decide_eq_true h13, Bool.true_and, show decide ((k : Int) < 17) = decide (k < 17) from decide_eq_decide.mpr (by omega)], decide_eq_true rfl]
      walk_at "dx"
      refine V.x_addL ⟨by simp [sizeLine_eq], ?_⟩
      walk_at "dx"
      refine in_1415 ?_
      by_cases h15 : k = 14 ∨ k = 15
      · rw [decide_eq_true h15]
        walk_at "dx"
        refine ⟨_, _, .inl rfl, atI_nat (word_at hk), ?_⟩
        walk_at "dx"
        exact q1 h15
      · rw [decide_eq_false h15]
        walk_at "dx"
        obtain ⟨y, rfl, hn, q⟩ := q2 (fun z => h15 (.inl z)) (fun z => h15 (.inr z))
        by_cases h17 : k = 17
        · rw [decide_eq_true (show (k : Int) = 17 by omega)]
          walk_at "dx"
          refine ⟨_, _, .inl rfl, atI_nat (word_at hk), ?_⟩
          have ea : rfAttr k = Str.ofString "limit" := if_pos h17
          rw [ea] at ha hn
          refine x_xf ?_
          walk_at "dx"
          refine ⟨a, C, _, y, rfl, ha, F.xf, hn, by simp [List.lookup], ?_⟩
          walk_at "dx"
          exact q
        · rw [decide_eq_false (show ¬ (k : Int) = 17 by omega)]
          walk_at "dx"
          have ea : rfAttr k = Str.ofString "value" := (if_neg h17).trans (if_neg (by omega))
          rw [ea] at ha hn
          refine ⟨_, _, .inl rfl, atI_nat (word_at hk), ?_⟩
          refine x_xf ?_
          walk_at "dx"
          refine ⟨a, C, _, y, rfl, ha, F.xf, hn, by simp [List.lookup], ?_⟩
          walk_at "dx"
          exact q
    · rw [decide_eq_false (show ¬ (13 : Int) < (k : Nat) by omega), if_neg Bool.false_ne_true]
      walk_at "dx"
      refine ne_bools (bs := underB k) (cs := [decide ((k : Int) < 14), false, decide ((k : Int) = 17)]) ?_
      rw [show underB k = [decide ((k : Int) < 14), false, decide ((k : Int) = 17)] by
        unfold underB
        rw [e14, e17, decide_eq_false h13, Bool.false_and], decide_eq_true rfl]
      walk_at "dx"
      refine V.x_addL ⟨by simp [sizeLine_eq], ?_⟩
      walk_at "dx"
      refine in_1415 ?_
      rw [decide_eq_false (show ¬ (k = 14 ∨ k = 15) by omega)]
      walk_at "dx"
      obtain ⟨y, rfl, hn, q⟩ := q2 (by omega) (by omega)
      by_cases h9 : 9 < k
      · have ea : rfAttr k = Str.ofString "index" := (if_neg (by omega)).trans (if_pos (by omega))
        rw [ea] at ha hn
        rw [decide_eq_true (show (9 : Int) < (k : Nat) by omega), if_pos rfl]
        walk_at "dx"
        refine ⟨_, _, .inl rfl, atI_nat (word_at hk), ?_⟩
        refine x_xf ?_
        walk_at "dx"
        refine ⟨a, C, _, y, rfl, ha, F.xf, hn, by simp [List.lookup], ?_⟩
        walk_at "dx"
        exact q
      · have ea : rfAttr k = Str.ofString "value" := (if_neg (by omega)).trans (if_neg (by omega))
        rw [ea] at ha hn
        rw [decide_eq_false (show ¬ (9 : Int) < (k : Nat) by omega), if_neg Bool.false_ne_true]
        walk_at "dx"
        refine ⟨_, _, .inl rfl, atI_nat (word_at hk), ?_⟩
        refine x_xf ?_
        walk_at "dx"
        refine ⟨a, C, _, y, rfl, ha, F.xf, hn, by simp [List.lookup], ?_⟩
        walk_at "dx"
        exact q
/-- what is told of a refusal with a value -/
theorem ref_val (T : Tx K mg) {C : Addr} {k : Nat} {f : Str} {y : D} {M : Mem} {R : QD} (ha : PySem.W.exmAny K (.ref C) [.ref T.C_InputError, .ref T.C_StateError, .ref T.C_SizeError] = some true) (F : RfX T C k) (hf : rfAttr k = f) (hn : PySem.W.findIn K (.ref C) f = some none) (q : R (.tup [.str (rfWord k), y]) M) (hk : k < 18 := by decide) (h14 : k ≠ 14 := by decide) (h15 : k ≠ 15 := by decide) :
    triedQ K (.ref T.C_InputError) (.ref T.C_StateError) (.ref T.C_SizeError) (spRefuse T) R C [(f, y)] M := by
  subst hf
  exact ⟨ha, fun a na => ⟨a, C, _, k, rfl, mset_same, F, hk, fun h => absurd h (by omega), fun _ _ => ⟨y, rfl, hn, M, mle_set na, q⟩⟩⟩
theorem tried__law_tried (T : Tx K mg) {X : Cx} (eP : X.prog = P) (ew : X.w = w) (eK : X.K = K) (em : X.mg = mg) (eb : X.base = base) (hr : L2H.RoomH (lv__law_refusal + 1) X.A) (cdv : Value) (q : Str) : LamX.GivesTo X n__law_tried "_law_tried" (L2.defScope s__law_tried) T.f__law_tried cdv (L2.defBody s__law_tried) "_law_act" q (TTtried K (.ref T.C_InputError) (.ref T.C_StateError) (.ref T.C_SizeError) (lift (spRefuse T))) := by
  subst eP ew eK em eb
  exact tried_gives rfl (by decide +kernel) rfl rfl rfl rfl (by decide) (by decide) (by decide) (by decide) rfl rfl rfl rfl T.m_InputError T.m_StateError T.m_SizeError T.m__law_refusal (by decide) (by decide) (by decide) (by decide) (okQ__law_refusal T) T.F__law_refusal.kp T.b__law_refusal hr (fun _ => rfl) (fun _ => rfl)
end
end G
namespace G
open PySem PySem.Spec PyProof.Rows L2 U V
section
variable {P : Program} {w : World} {K : PySem.W.Frag} {mg : Str → Option Value} {base : Heap}
theorem fldN_rule (T : Tx K mg) {r : Ru} {wd : Nat} {M : Mem} {R : QD} (q : R (.str r.str) M) : rFld1 K (Str.ofString "rule") (namerD T.C_Namer r wd) M R := V.x_fldI (ns := ["rule", "width"]) 0 rfl rfl T.c_Namer T.na_Namer_rule (by decide +kernel) q
theorem fldN_width (T : Tx K mg) {r : Ru} {wd : Nat} {M : Mem} {R : QD} (q : R (.int (wd : Nat)) M) : rFld1 K (Str.ofString "width") (namerD T.C_Namer r wd) M R := V.x_fldI (ns := ["rule", "width"]) 1 rfl rfl T.c_Namer T.na_Namer_width (by decide +kernel) q
def decN (n : Nat) : Str := Str.ofString (toString (n : Int))
def showN (r : Ru) (wd : Nat) : Str := Str.ofString "Namer(" ++ r.str ++ Str.ofString ", " ++ decN wd ++ Str.ofString ")"
def spNmRepr (C : Addr) : DC := fun ds M R => ∃ (r : Ru) (wd : Nat), ds = [namerD C r wd] ∧ wd ≤ 40 ∧ R (.str (showN r wd)) M
theorem okD_Namer___repr__ (T : Tx K mg) : FnOk P w K mg base L2.CX0 lv_Namer___repr__ T.f_Namer___repr__ T.d_Namer___repr__ p_Namer___repr__ (lift (spNmRepr T.C_Namer)) := by
  refine fnD T.F_Namer___repr__ sc_Namer___repr__ (fun ds M R h => ?_) (fun cdv A outer s H E hr => ?_)
  · first | (obtain ⟨rfl, _⟩ := h; rfl) | (obtain ⟨_, rfl, _⟩ := h; rfl) | (obtain ⟨_, _, rfl, _⟩ := h; rfl) | (obtain ⟨_, _, _, rfl, _⟩ := h; rfl) | (obtain ⟨_, _, _, _, rfl, _⟩ := h; rfl) | (obtain ⟨_, _, _, _, _, rfl, _⟩ := h; rfl) | (obtain ⟨_, _, _, _, _, _, rfl, _⟩ := h; rfl) | (obtain ⟨_, _, _, _, _, _, _, rfl, _⟩ := h; rfl) | (obtain ⟨_, _, _, _, _, _, _, _, rfl, _⟩ := h; rfl)
  · have hr64 := hr.units
    have hc_Namer := T.c_Namer
    have hi_Namer := T.i_Namer
    have hn_Namer_rule := T.na_Namer_rule
    have hn_Namer_width := T.na_Namer_width
    refine ⟨_, (pss_one (ps_ret (pe_joinedD (.cons pe_str (.cons (pe_fmt (pe_fldK (K := K) rfl (pv 0))) (.cons pe_str (.cons (pe_fmt (pe_fldK (K := K) rfl (pv 0))) (.cons pe_str .nil)))))))), ?_⟩
    refine ⟨_, inferInstance, fun ds M R h => ?_⟩
    obtain ⟨r, wd, rfl, h40, q⟩ := h
    rw [st_Namer___repr__]
    walk_at "dx"
    have dl : (decN wd).length ≤ 2 := (show ∀ n, n ≤ 40 → (decN n).length ≤ 2 by decide +kernel) wd h40
    have rl : r.str.length ≤ 5 := by cases r <;> decide +kernel
    refine x_js (x_c ⟨_, rfl, by decide +kernel, ?_⟩)
    refine x_js ?_
    show dFld K (dVar 0) _ _ _ _
    walk_at "dx"
    refine fldN_rule T ?_
    have k1 : (Str.ofString "Namer(").length = 6 := rfl
    have k2 : (Str.ofString ", ").length = 2 := rfl
    have k3 : (Str.ofString ")").length = 1 := rfl
    have k0 : Str.empty.length = 0 := rfl
    refine ⟨by rw [sizeLine_eq]; omega, _, rfl, by rw [len_append, len_append, sizeLine_eq]; omega, x_js (x_c ⟨_, rfl, by rw [len_append, len_append, len_append, sizeLine_eq]; omega, ?_⟩)⟩
    refine x_js ?_
    show dFld K (dVar 0) _ _ _ _
    walk_at "dx"
    refine fldN_width T ?_
    have kd : (Str.ofString (toString ((wd : Nat) : Int))).length ≤ 2 := dl
    refine ⟨log_small (by omega), _, rfl, by rw [len_append, len_append, len_append, len_append, sizeLine_eq]; omega, x_js (x_c ⟨_, rfl, by rw [len_append, len_append, len_append, len_append, len_append, sizeLine_eq]; omega, x_js0 ?_⟩)⟩
    unfold showN decN at q
    rw [empty_append]
    exact q
end
end G
namespace G
open PySem PySem.Spec PyProof.Rows L2 U V
section
variable {P : Program} {w : World} {K : PySem.W.Frag} {mg : Str → Option Value} {base : Heap}
theorem okE_NotANamer___init__ (T : Tx K mg) : FnOk P w K mg base L2.CX0 lv_NotANamer___init__ T.f_NotANamer___init__ T.d_NotANamer___init__ p_NotANamer___init__ (spExI T.C_NotANamer "value") := by
  refine T.F_NotANamer___init__.ok sc_NotANamer___init__ (fun vs H Q E h => ?_) (fun cdv A outer s H vs Q E hr h => ?_)
  · obtain ⟨a, y, rfl, _⟩ := h
    rfl
  · obtain ⟨a, y, rfl, ha, q⟩ := h
    refine ⟨_, pss_one (ps_ost (pv 0) (pv 1)), ?_⟩
    exact ⟨y, rfl, .ref a, rfl, a, T.C_NotANamer, rfl, T.o_NotANamer, T.na_NotANamer_value, .inl ⟨ha, fun dx nd ne => q dx nd ne⟩⟩
theorem okE_InvalidPlace___init__ (T : Tx K mg) : FnOk P w K mg base L2.CX0 lv_InvalidPlace___init__ T.f_InvalidPlace___init__ T.d_InvalidPlace___init__ p_InvalidPlace___init__ (spExI T.C_InvalidPlace "value") := by
  refine T.F_InvalidPlace___init__.ok sc_InvalidPlace___init__ (fun vs H Q E h => ?_) (fun cdv A outer s H vs Q E hr h => ?_)
  · obtain ⟨a, y, rfl, _⟩ := h
    rfl
  · obtain ⟨a, y, rfl, ha, q⟩ := h
    refine ⟨_, pss_one (ps_ost (pv 0) (pv 1)), ?_⟩
    exact ⟨y, rfl, .ref a, rfl, a, T.C_InvalidPlace, rfl, T.o_InvalidPlace, T.na_InvalidPlace_value, .inl ⟨ha, fun dx nd ne => q dx nd ne⟩⟩
/-- a thing of a known kind -/
def KindD (K : PySem.W.Frag) (d : D) (t : String) : Prop := (∀ M, TyD K M d (.type t)) ∧ t ∈ tyNames
/-- no texts, and the place that is due -/
inductive BadTx (K : PySem.W.Frag) : D → D → Prop
  | other {d : D} {t : String} (h : KindD K d t) (n : t ≠ "tuple") : BadTx K d .non
  | size {xs : List D} (h : 6 < xs.length) : BadTx K (.tup xs) .non
  | elem {xs : List D} {i : Nat} {x : D} (h6 : xs.length ≤ 6) (hx : xs[i]? = some x) (good : ∀ j y, j < i → xs[j]? = some y → ∃ z, y = .str z ∧ okText 200 z = true) (bad : ∀ M, BadT K M 200 x) : BadTx K (.tup xs) (.int (i : Nat))
def spCheckNamerX (C CN : Addr) (K : PySem.W.Frag) : DCX := fun ds M R q => ∃ d, ds = [d] ∧ (((∃ (r : Ru) (wd : Nat), d = namerD C r wd) ∧ R .non M) ∨ (∃ t, KindD K d t) ∧ q CN [(Str.ofString "value", d)] M)
theorem okX_check_namer (T : Tx K mg) : FnOk P w K mg base (L2.CX P w) lv_check_namer T.f_check_namer T.d_check_namer p_check_namer (liftX (spCheckNamerX T.C_Namer T.C_NotANamer K)) := by
  refine fnX T.F_check_namer sc_check_namer (fun ds M R q h => ?_) (fun cdv A outer s H E hr tk hpo => ?_)
  · first | (obtain ⟨rfl, _⟩ := h; rfl) | (obtain ⟨_, rfl, _⟩ := h; rfl) | (obtain ⟨_, _, rfl, _⟩ := h; rfl) | (obtain ⟨_, _, _, rfl, _⟩ := h; rfl) | (obtain ⟨_, _, _, _, rfl, _⟩ := h; rfl) | (obtain ⟨_, _, _, _, _, rfl, _⟩ := h; rfl) | (obtain ⟨_, _, _, _, _, _, rfl, _⟩ := h; rfl) | (obtain ⟨_, _, _, _, _, _, _, rfl, _⟩ := h; rfl) | (obtain ⟨_, _, _, _, _, _, _, _, rfl, _⟩ := h; rfl)
  · have hr64 := hr.units
    have hc_Namer := T.c_Namer
    have hi_Namer := T.i_Namer
    have hn_Namer_rule := T.na_Namer_rule
    have hn_Namer_width := T.na_Namer_width
    refine ⟨_, (pss_one (ps_if (pt_not (pt_val (pe_callB (call_isiK (K := K) rfl) (by rfl) T.n_isinstance (by decide +kernel) (pa_cons (pv 0) (pa_cons (pe_gref rfl T.m_Namer) pa_nil))))) (pss_one (ps_raiseX T.o_NotANamer T.i_NotANamer T.j_NotANamer (okE_NotANamer___init__ T) (hr.mono (by decide)) T.b_NotANamer___init__ rfl T.m_NotANamer rfl tk (pv 0))) pss_nil)), ?_⟩
    refine ⟨_, inferInstance, fun ds M R q h => ?_⟩
    obtain ⟨d, rfl, h⟩ := h
    walk_at "dx"
    rcases h with ⟨⟨r, wd, rfl⟩, p⟩ | ⟨⟨t, ty, ht⟩, p⟩
    · refine ⟨_, true, .ins (.inl rfl) T.i_Namer, T.i_Namer.me, ?_⟩
      walk_at "dx"
      exact p
    · refine ⟨_, false, ty M, T.kt_Namer t ht, ?_⟩
      walk_at "dx"
      exact p
def spCheckTextsB (CT : Addr) (K : PySem.W.Frag) : DCX := fun ds M R q => ∃ d p, ds = [d] ∧ BadTx K d p ∧ q CT [(Str.ofString "index", p)] M
theorem okX_check_texts_b (T : Tx K mg) : FnOk P w K mg base (L2.CX P w) lv_check_texts T.f_check_texts T.d_check_texts p_check_texts (liftX (spCheckTextsB T.C_InvalidTexts K)) := by
  refine fnX T.F_check_texts sc_check_texts (fun ds M R q h => ?_) (fun cdv A outer s H E hr tk hpo => ?_)
  · first | (obtain ⟨rfl, _⟩ := h; rfl) | (obtain ⟨_, rfl, _⟩ := h; rfl) | (obtain ⟨_, _, rfl, _⟩ := h; rfl) | (obtain ⟨_, _, _, rfl, _⟩ := h; rfl) | (obtain ⟨_, _, _, _, rfl, _⟩ := h; rfl) | (obtain ⟨_, _, _, _, _, rfl, _⟩ := h; rfl) | (obtain ⟨_, _, _, _, _, _, rfl, _⟩ := h; rfl) | (obtain ⟨_, _, _, _, _, _, _, rfl, _⟩ := h; rfl) | (obtain ⟨_, _, _, _, _, _, _, _, rfl, _⟩ := h; rfl)
  · have hr64 := hr.units
    have hc_Namer := T.c_Namer
    have hi_Namer := T.i_Namer
    have hn_Namer_rule := T.na_Namer_rule
    have hn_Namer_width := T.na_Namer_width
    refine ⟨_, (pss_cons (ps_if (PW.pt (pw_or (pt_not (pt_val (pe_callB (call_isiK (K := K) rfl) (by rfl) T.n_isinstance (by decide +kernel) (pa_cons (pv 0) (pa_cons (pe_bt "tuple" rfl T.n_tuple (by decide +kernel)) pa_nil))))) (pw_or1 (pt_cmpR op_gt (pe_callB (call_lenK (K := K) rfl) (by rfl) T.n_len (by decide +kernel) (pa_cons (pv 0) pa_nil)) (C8.pe_gc rfl T.k_MOST_LISTED) (nomark _))))) (pss_one (ps_raiseX T.o_InvalidTexts T.i_InvalidTexts T.j_InvalidTexts (okE_InvalidTexts___init__ T) (hr.mono (by decide)) T.b_InvalidTexts___init__ rfl T.m_InvalidTexts rfl tk pe_non)) pss_nil)
        (pss_one (ps_for hpo rfl (pi_enumT (K := K) rfl rfl T.n_enumerate (pa_cons (pv 0) pa_nil)) (pg_tupK (K := K) (n := 2) rfl rfl (pgs_cons (pg_name (i := 1) sc_check_texts.nd rfl (by first | exact Or.inl rfl | exact Or.inr rfl)) (pgs_cons (pg_name (i := 2) sc_check_texts.nd rfl (by first | exact Or.inl rfl | exact Or.inr rfl)) pgs_nil))) (pss_one (ps_if (pt_not (pt_val (pe_call (okD_is_text T) (hr.mono (by decide)) rfl T.m_is_text T.F_is_text.kp T.b_is_text .nil pass0 (pa_cons (pv 2) (pa_cons (C8.pe_gc rfl T.k_MOST_TEXT) pa_nil))))) (pss_one (ps_raiseX T.o_InvalidTexts T.i_InvalidTexts T.j_InvalidTexts (okE_InvalidTexts___init__ T) (hr.mono (by decide)) T.b_InvalidTexts___init__ rfl T.m_InvalidTexts rfl tk (pv 1))) pss_nil))))), ?_⟩
    refine ⟨_, inferInstance, fun ds M R q h => ?_⟩
    obtain ⟨d, p, rfl, h, q⟩ := h
    walk_at "dx"
    cases h with
    | @other _ t h n =>
      obtain ⟨ty, ht⟩ := h
      refine ⟨_, false, ty M, kit_ty (ty_ne ht (by decide) n), ?_⟩
      walk_at "dx"
      exact q
    | @size xs h =>
      refine ⟨_, true, .tup _, kit_ty (by decide +kernel), ?_⟩
      walk_at "dx"
      exact q
    | @elem xs i x h6 hx good bad =>
      refine ⟨_, true, .tup _, kit_ty (by decide +kernel), ?_⟩
      walk_at "dx"
      obtain ⟨hi0, _⟩ := List.getElem?_eq_some_iff.mp hx
      refine loop_inv (fun j δ M' => M' = M ∧ j ≤ i ∧ ∃ u v, δ = [some (.tup xs), u, v]) ⟨rfl, Nat.zero_le _, _, _, rfl⟩ ?_ ?_
      · rintro j x' δ M' Kc hx' ⟨rfl, hi, u, v, rfl⟩ hk
        obtain ⟨y, hy, rfl⟩ := enum_get hx'
        walk_at "dx"
        by_cases c : j = i
        · subst c
          rw [hx] at hy
          cases hy
          refine badT_is (n := 200) (bad _) ?_
          walk_at "dx"
          exact q
        · obtain ⟨z, rfl, hz⟩ := good j y (by omega) hy
          refine ⟨_, 200, rfl, .inl ⟨z, rfl, by have := (okText_iff.mp hz).1; omega, ?_⟩⟩
          rw [hz]
          walk_at "dx"
          exact (hk _ _ trivial ⟨rfl, by omega, _, _, rfl⟩).2
      · rintro δ M' ⟨rfl, hi, _⟩
        rw [enumD_len] at hi
        omega
theorem okX_check_textsJ (T : Tx K mg) : FnOk P w K mg base (L2.CX P w) lv_check_texts T.f_check_texts T.d_check_texts p_check_texts (liftX fun ds M R q => spCheckTextsN ds M R ∨ spCheckTextsB T.C_InvalidTexts K ds M R q) := fn_orXX (fn_toX (okD_check_texts T)) (okX_check_texts_b T)
def goodLn (d : D) : Prop := ∃ l : List Str, d = .tup (l.map D.str) ∧ l.length ≤ 6 ∧ ∀ z ∈ l, okText 200 z = true
/-- namer and texts: the first error -/
def BadNT (C CN CT : Addr) (K : PySem.W.Frag) (n l : D) (M : Mem) (q : QX) : Prop := ((∃ t, KindD K n t) ∧ q CN [(Str.ofString "value", n)] M) ∨ ((∃ (r : Ru) (wd : Nat), n = namerD C r wd) ∧ ∃ p, BadTx K l p ∧ q CT [(Str.ofString "index", p)] M)
def spNamesB (C CN CT : Addr) (K : PySem.W.Frag) : DCX := fun ds M R q => ∃ n l, ds = [n, l] ∧ BadNT C CN CT K n l M q
theorem okX_names (T : Tx K mg) : FnOk P w K mg base (L2.CX P w) lv_names T.f_names T.d_names p_names (liftX (spNamesB T.C_Namer T.C_NotANamer T.C_InvalidTexts K)) := by
  refine fnX T.F_names sc_names (fun ds M R q h => ?_) (fun cdv A outer s H E hr tk hpo => ?_)
  · first | (obtain ⟨rfl, _⟩ := h; rfl) | (obtain ⟨_, rfl, _⟩ := h; rfl) | (obtain ⟨_, _, rfl, _⟩ := h; rfl) | (obtain ⟨_, _, _, rfl, _⟩ := h; rfl) | (obtain ⟨_, _, _, _, rfl, _⟩ := h; rfl) | (obtain ⟨_, _, _, _, _, rfl, _⟩ := h; rfl) | (obtain ⟨_, _, _, _, _, _, rfl, _⟩ := h; rfl) | (obtain ⟨_, _, _, _, _, _, _, rfl, _⟩ := h; rfl) | (obtain ⟨_, _, _, _, _, _, _, _, rfl, _⟩ := h; rfl)
  · have hr64 := hr.units
    have hc_Namer := T.c_Namer
    have hi_Namer := T.i_Namer
    have hn_Namer_rule := T.na_Namer_rule
    have hn_Namer_width := T.na_Namer_width
    refine ⟨_, (pss_cons (ps_expr (pe_call (okX_check_namer T) (hr.mono (by decide)) rfl T.m_check_namer T.F_check_namer.kp T.b_check_namer .nil (passX tk) (pa_cons (pv 0) pa_nil)))
        (pss_cons (ps_expr (pe_call (okX_check_textsJ T) (hr.mono (by decide)) rfl T.m_check_texts T.F_check_texts.kp T.b_check_texts .nil (passX tk) (pa_cons (pv 1) pa_nil)))
        (pss_one ps_never))), ?_⟩
    refine ⟨_, inferInstance, fun ds M R q h => ?_⟩
    obtain ⟨n, l, rfl, h⟩ := h
    walk_at "dx"
    rcases h with ⟨h, p⟩ | ⟨h, p, hb, qq⟩
    · exact ⟨n, rfl, .inr ⟨h, p⟩⟩
    · refine ⟨n, rfl, .inl ⟨h, ?_⟩⟩
      walk_at "dx"
      exact .inr ⟨l, p, rfl, hb, qq⟩
theorem okX_meeting (T : Tx K mg) : FnOk P w K mg base (L2.CX P w) lv_meeting T.f_meeting T.d_meeting p_meeting (liftX (spNamesB T.C_Namer T.C_NotANamer T.C_InvalidTexts K)) := by
  refine fnX T.F_meeting sc_meeting (fun ds M R q h => ?_) (fun cdv A outer s H E hr tk hpo => ?_)
  · first | (obtain ⟨rfl, _⟩ := h; rfl) | (obtain ⟨_, rfl, _⟩ := h; rfl) | (obtain ⟨_, _, rfl, _⟩ := h; rfl) | (obtain ⟨_, _, _, rfl, _⟩ := h; rfl) | (obtain ⟨_, _, _, _, rfl, _⟩ := h; rfl) | (obtain ⟨_, _, _, _, _, rfl, _⟩ := h; rfl) | (obtain ⟨_, _, _, _, _, _, rfl, _⟩ := h; rfl) | (obtain ⟨_, _, _, _, _, _, _, rfl, _⟩ := h; rfl) | (obtain ⟨_, _, _, _, _, _, _, _, rfl, _⟩ := h; rfl)
  · have hr64 := hr.units
    have hc_Namer := T.c_Namer
    have hi_Namer := T.i_Namer
    have hn_Namer_rule := T.na_Namer_rule
    have hn_Namer_width := T.na_Namer_width
    refine ⟨_, (pss_cons (ps_expr (pe_call (okX_check_namer T) (hr.mono (by decide)) rfl T.m_check_namer T.F_check_namer.kp T.b_check_namer .nil (passX tk) (pa_cons (pv 0) pa_nil)))
        (pss_cons (ps_expr (pe_call (okX_check_textsJ T) (hr.mono (by decide)) rfl T.m_check_texts T.F_check_texts.kp T.b_check_texts .nil (passX tk) (pa_cons (pv 1) pa_nil)))
        (pss_cons ps_never
        (pss_one ps_never)))), ?_⟩
    refine ⟨_, inferInstance, fun ds M R q h => ?_⟩
    obtain ⟨n, l, rfl, h⟩ := h
    walk_at "dx"
    rcases h with ⟨h, p⟩ | ⟨h, p, hb, qq⟩
    · exact ⟨n, rfl, .inr ⟨h, p⟩⟩
    · refine ⟨n, rfl, .inl ⟨h, ?_⟩⟩
      walk_at "dx"
      exact .inr ⟨l, p, rfl, hb, qq⟩
/-- no place -/
def BadPl (K : PySem.W.Frag) (m : Nat) (d : D) : Prop := ∃ t : String, KindD K d t ∧ ∀ i : Int, d = .int i → ¬ (0 ≤ i ∧ i < m)
def spPossB (C CN CT CP : Addr) (K : PySem.W.Frag) : DCX := fun ds M R q => ∃ n l p, ds = [n, l, p] ∧ (BadNT C CN CT K n l M q ∨ ((∃ (r : Ru) (wd : Nat), n = namerD C r wd) ∧ ∃ xs : List Str, l = .tup (xs.map D.str) ∧ xs.length ≤ 6 ∧ (∀ z ∈ xs, okText 200 z = true) ∧ BadPl K xs.length p ∧ q CP [(Str.ofString "value", p)] M))
theorem okX_possible_names (T : Tx K mg) : FnOk P w K mg base (L2.CX P w) lv_possible_names T.f_possible_names T.d_possible_names p_possible_names (liftX (spPossB T.C_Namer T.C_NotANamer T.C_InvalidTexts T.C_InvalidPlace K)) := by
  refine fnX T.F_possible_names sc_possible_names (fun ds M R q h => ?_) (fun cdv A outer s H E hr tk hpo => ?_)
  · first | (obtain ⟨rfl, _⟩ := h; rfl) | (obtain ⟨_, rfl, _⟩ := h; rfl) | (obtain ⟨_, _, rfl, _⟩ := h; rfl) | (obtain ⟨_, _, _, rfl, _⟩ := h; rfl) | (obtain ⟨_, _, _, _, rfl, _⟩ := h; rfl) | (obtain ⟨_, _, _, _, _, rfl, _⟩ := h; rfl) | (obtain ⟨_, _, _, _, _, _, rfl, _⟩ := h; rfl) | (obtain ⟨_, _, _, _, _, _, _, rfl, _⟩ := h; rfl) | (obtain ⟨_, _, _, _, _, _, _, _, rfl, _⟩ := h; rfl)
  · have hr64 := hr.units
    have hc_Namer := T.c_Namer
    have hi_Namer := T.i_Namer
    have hn_Namer_rule := T.na_Namer_rule
    have hn_Namer_width := T.na_Namer_width
    refine ⟨_, (pss_cons (ps_expr (pe_call (okX_check_namer T) (hr.mono (by decide)) rfl T.m_check_namer T.F_check_namer.kp T.b_check_namer .nil (passX tk) (pa_cons (pv 0) pa_nil)))
        (pss_cons (ps_expr (pe_call (okX_check_textsJ T) (hr.mono (by decide)) rfl T.m_check_texts T.F_check_texts.kp T.b_check_texts .nil (passX tk) (pa_cons (pv 1) pa_nil)))
        (pss_cons (ps_if (PW.pt (pw_or (pt_not (pt_val (pe_call (okD_is_integer T) (hr.mono (by decide)) rfl T.m_is_integer T.F_is_integer.kp T.b_is_integer .nil pass0 (pa_cons (pv 2) pa_nil)))) (pw_or1 (pt_not (pt_chain op_le op_ltU pe_int (pv 2) (pe_callB (call_lenK (K := K) rfl) (by rfl) T.n_len (by decide +kernel) (pa_cons (pv 1) pa_nil))))))) (pss_one (ps_raiseX T.o_InvalidPlace T.i_InvalidPlace T.j_InvalidPlace (okE_InvalidPlace___init__ T) (hr.mono (by decide)) T.b_InvalidPlace___init__ rfl T.m_InvalidPlace rfl tk (pv 2))) pss_nil)
        (pss_cons ps_never
        (pss_cons ps_never
        (pss_one ps_never)))))), ?_⟩
    refine ⟨_, inferInstance, fun ds M R q h => ?_⟩
    obtain ⟨n, l, p, rfl, h⟩ := h
    walk_at "dx"
    rcases h with (⟨h, qq⟩ | ⟨h, p', hb, qq⟩) | ⟨h, xs, rfl, h6, ho, ⟨t, ⟨ty, ht⟩, hb⟩, qq⟩
    · exact ⟨n, rfl, .inr ⟨h, qq⟩⟩
    · refine ⟨n, rfl, .inl ⟨h, ?_⟩⟩
      walk_at "dx"
      exact .inr ⟨l, p', rfl, hb, qq⟩
    · refine ⟨n, rfl, .inl ⟨h, ?_⟩⟩
      walk_at "dx"
      refine .inl ⟨xs, rfl, h6, ho, ?_⟩
      walk_at "dx"
      refine ⟨_, rfl, t, ty M, ht, _, rfl, ?_⟩
      by_cases c : t = "int"
      · subst c
        obtain ⟨i, rfl⟩ := ty_int (ty M)
        have hb := hb i rfl
        rw [show ("int" == "int") = true by decide]
        walk_at "dx"
        by_cases c0 : 0 ≤ i
        · have c1 : ¬ i < ((xs.map D.str).length : Int) := fun z => hb ⟨c0, by rw [List.length_map] at z; exact z⟩
          rw [decide_eq_true c0]
          walk_at "dx"
          exact qq
        · rw [decide_eq_false c0]
          walk_at "dx"
          exact qq
      · rw [show (t == "int") = false by simpa using c]
        walk_at "dx"
        exact qq
theorem okX_namesJ (T : Tx K mg) : FnOk P w K mg base (L2.CX P w) lv_names T.f_names T.d_names p_names (liftX fun ds M R q => spNamesN T.C_Namer ds M R ∨ spNamesB T.C_Namer T.C_NotANamer T.C_InvalidTexts K ds M R q) := fn_orXX (fn_toX (okD_names T)) (okX_names T)
theorem okX_meetingJ (T : Tx K mg) : FnOk P w K mg base (L2.CX P w) lv_meeting T.f_meeting T.d_meeting p_meeting (liftX fun ds M R q => spMeet T.C_Namer ds M R ∨ spNamesB T.C_Namer T.C_NotANamer T.C_InvalidTexts K ds M R q) := fn_orXX (fn_toX (okD_meeting T)) (okX_meeting T)
theorem okX_possJ (T : Tx K mg) : FnOk P w K mg base (L2.CX P w) lv_possible_names T.f_possible_names T.d_possible_names p_possible_names (liftX fun ds M R q => spPoss T.C_Namer ds M R ∨ spPossB T.C_Namer T.C_NotANamer T.C_InvalidTexts T.C_InvalidPlace K ds M R q) := fn_orXX (fn_toX (okD_possible_names T)) (okX_possible_names T)
end
end G
namespace G
open PySem PySem.Spec PyProof.Rows L2 U V
section
variable {P : Program} {w : World} {K : PySem.W.Frag} {mg : Str → Option Value} {base : Heap}
theorem one_lstD {p : Addr} {xs : List D} {M : Mem} {R : QD} (q : ∀ x ∈ xs, R x M) (h0 : 0 < xs.length := by simp) (h1 : xs.length < 1000000 := by simp) : spOneD [potD p, .lst xs] M R := ⟨p, _, rfl, .inl ⟨xs, .inl rfl, h0, h1, q⟩⟩
theorem eq_nilD47 {M : Mem} {xs : List D} {R : QD} (o : EqOk (.lst xs)) (q : R (.bl (decide (xs.length = 0))) M) : rEq1 (.lst xs) (.lst []) M R := by
  refine ⟨o, EqOk.of (okPs.nil 0 0).list (by decide), ?_⟩
  have e : D.eqb (.lst xs) (.lst []) = decide (xs.length = 0) := by
    cases xs <;> simp [D.eqb, D.eqbs]
  show R (.bl (D.eqb (.lst xs) (.lst []))) M
  rw [e]
  exact q
theorem ne_nilD47 {M : Mem} {xs : List D} {R : QD} (o : EqOk (.lst xs)) (q : R (.bl (!decide (xs.length = 0))) M) : rNe1 (.lst xs) (.lst []) M R := by
  refine ⟨o, EqOk.of (okPs.nil 0 0).list (by decide), ?_⟩
  have e : D.eqb (.lst xs) (.lst []) = decide (xs.length = 0) := by
    cases xs <;> simp [D.eqb, D.eqbs]
  show R (.bl (!D.eqb (.lst xs) (.lst []))) M
  rw [e]
  exact q
theorem reprR_two {K : PySem.W.Frag} {d : D} {W k : Nat} {M : Mem} {R : QD} (o : okQ W k d) (hm : M sysModules = some .sys) (hk : k ≤ 40) (hW : W ≤ 16000) (q : ∀ z, (∀ (R2 : QD), R2 (.str z) M → V.rReprR1 K [d] M R2) → R (.str z) M) : V.rReprR1 K [d] M R := by
  obtain ⟨p, o⟩ := o.r (K := K)
  exact reprR o hm (q _ fun R2 h => reprR o hm h hk hW) hk hW
theorem showN_len {r : Ru} {wd : Nat} (h : wd ≤ 40) : (showN r wd).length ≤ 20 := by
  have := (show ∀ n, n ≤ 40 → (showN .count n).length ≤ 20 ∧ (showN .free n).length ≤ 20 ∧ (showN .tight n).length ≤ 20 by decide +kernel) wd h
  cases r
  · exact this.1
  · exact this.2.1
  · exact this.2.2
theorem tl_len {r : Ru} {wd : Nat} (h : wd ≤ 40) : (tupleText [reprText (Str.ofString "namer"), listText [showN r wd]]).length ≤ sizeLine := by
  have := (show ∀ n, n ≤ 40 → (tupleText [reprText (Str.ofString "namer"), listText [showN .count n]]).length ≤ 100 ∧ (tupleText [reprText (Str.ofString "namer"), listText [showN .free n]]).length ≤ 100 ∧ (tupleText [reprText (Str.ofString "namer"), listText [showN .tight n]]).length ≤ 100 by decide +kernel) wd h
  rw [sizeLine_eq]
  cases r
  · have := this.1; omega
  · have := this.2.1; omega
  · have := this.2.2; omega
def spIs47 (C : Addr) : DC := fun ds M R => ∃ d, ds = [d, d] ∧ ((∃ W k, okQ W k d ∧ k ≤ 40 ∧ W ≤ 16000) ∨ ∃ (r : Ru) (wd : Nat), d = .tup [.str (Str.ofString "namer"), .lst [namerD C r wd]] ∧ wd ≤ 40) ∧ M sysModules = some .sys ∧ R (.bl true) M
theorem okD__law_is (T : Tx K mg) : FnG P w K mg base lv__law_is T.f__law_is T.d__law_is p__law_is (lift (spIs47 T.C_Namer)) := by
  refine fnDG T.F__law_is sc__law_is (fun ds M R h => ?_) (fun cdv A outer s H E hr hgd => ?_)
  · first | (obtain ⟨rfl, _⟩ := h; rfl) | (obtain ⟨_, rfl, _⟩ := h; rfl) | (obtain ⟨_, _, rfl, _⟩ := h; rfl) | (obtain ⟨_, _, _, rfl, _⟩ := h; rfl) | (obtain ⟨_, _, _, _, rfl, _⟩ := h; rfl) | (obtain ⟨_, _, _, _, _, rfl, _⟩ := h; rfl) | (obtain ⟨_, _, _, _, _, _, rfl, _⟩ := h; rfl) | (obtain ⟨_, _, _, _, _, _, _, rfl, _⟩ := h; rfl) | (obtain ⟨_, _, _, _, _, _, _, _, rfl, _⟩ := h; rfl)
  · have hr64 := hr.units
    have hc_Namer := T.c_Namer
    have hi_Namer := T.i_Namer
    have hn_Namer_rule := T.na_Namer_rule
    have hn_Namer_width := T.na_Namer_width
    refine ⟨_, (pss_one (ps_ret (pe_cmpR (op_eqA (K := K) rfl hr64) (pe_callB (cr_or (call_reprQ (K := K) rfl hgd hr64) (call_reprTL T.b_Namer___repr__ (okD_Namer___repr__ T) (hr.mono (by decide)) hgd T.t_Namer___repr__.at_ T.t_Namer___repr__.fn)) (by rfl) T.n_repr (by decide +kernel) (pa_cons (pv 0) pa_nil)) (pe_callB (cr_or (call_reprQ (K := K) rfl hgd hr64) (call_reprTL T.b_Namer___repr__ (okD_Namer___repr__ T) (hr.mono (by decide)) hgd T.t_Namer___repr__.at_ T.t_Namer___repr__.fn)) (by rfl) T.n_repr (by decide +kernel) (pa_cons (pv 1) pa_nil)) (nomark _)))), ?_⟩
    refine ⟨_, inferInstance, fun ds M R h => ?_⟩
    obtain ⟨d, rfl, h, hs, q⟩ := h
    rw [st__law_is]
    walk_at "dx"
    rcases h with ⟨W, k, o, hk, hW⟩ | ⟨r, wd, rfl, h40⟩
    · refine .inl (reprR_two o hs hk hW fun z hz => ?_)
      walk_at "dx"
      refine .inl (hz _ ?_)
      walk_at "dx"
      rw [decide_eq_true rfl]
      exact q
    · have len := showN_len (r := r) h40
      have tl := tl_len (r := r) h40
      refine .inr ⟨_, _, _, _, rfl, .inl rfl, by decide +kernel, r, wd, rfl, h40, _, rfl, by omega, tl, ?_⟩
      walk_at "dx"
      refine .inr ⟨_, _, _, _, rfl, .inl rfl, by decide +kernel, r, wd, rfl, h40, _, rfl, by omega, tl, ?_⟩
      walk_at "dx"
      rw [decide_eq_true rfl]
      exact q
def spFits (C : Addr) : DC := fun ds M R => ∃ a b, ds = [a, b] ∧ M sysModules = some .sys ∧ R (.bl true) M ∧ ((b = .non ∧ ∃ x, a = .tup [.str (Str.ofString "told"), x]) ∨ (a = b ∧ V.isNon b = false ∧ ∃ W k, okQ W k b ∧ k ≤ 40 ∧ W ≤ 16000))
theorem okD__law_fits (T : Tx K mg) : FnG P w K mg base lv__law_fits T.f__law_fits T.d__law_fits p__law_fits (lift (spFits T.C_Namer)) := by
  refine fnDG T.F__law_fits sc__law_fits (fun ds M R h => ?_) (fun cdv A outer s H E hr hgd => ?_)
  · first | (obtain ⟨rfl, _⟩ := h; rfl) | (obtain ⟨_, rfl, _⟩ := h; rfl) | (obtain ⟨_, _, rfl, _⟩ := h; rfl) | (obtain ⟨_, _, _, rfl, _⟩ := h; rfl) | (obtain ⟨_, _, _, _, rfl, _⟩ := h; rfl) | (obtain ⟨_, _, _, _, _, rfl, _⟩ := h; rfl) | (obtain ⟨_, _, _, _, _, _, rfl, _⟩ := h; rfl) | (obtain ⟨_, _, _, _, _, _, _, rfl, _⟩ := h; rfl) | (obtain ⟨_, _, _, _, _, _, _, _, rfl, _⟩ := h; rfl)
  · have hr64 := hr.units
    have hc_Namer := T.c_Namer
    have hi_Namer := T.i_Namer
    have hn_Namer_rule := T.na_Namer_rule
    have hn_Namer_width := T.na_Namer_width
    refine ⟨_, (pss_one (ps_ret (pe_ifExp (pt_cmpR op_isN1 (pv 1) pe_non (nomark _)) (pe_cmpR (op_eqA (K := K) rfl hr64) (pe_ix (ix_K (K := K) rfl) (pv 0) pe_int (fun _ _ => rfl)) pe_str (nomark _)) (pe_callG (okD__law_is T) (hr.mono (by decide)) hgd rfl T.m__law_is T.F__law_is.kp T.b__law_is (pa_cons (pv 0) (pa_cons (pv 1) pa_nil)))))), ?_⟩
    refine ⟨_, inferInstance, fun ds M R h => ?_⟩
    obtain ⟨a, b, rfl, hs, q, h⟩ := h
    rw [st__law_fits]
    rcases h with ⟨rfl, x, rfl⟩ | ⟨rfl, hb, o⟩
    · walk_at "dx"
      rw [if_pos (show V.isNon D.non = true from rfl)]
      walk_at "dx"
      rw [decide_eq_true rfl]
      exact q
    · walk_at "dx"
      rw [hb, if_neg Bool.false_ne_true]
      walk_at "dx"
      exact ⟨a, rfl, .inl o, hs, q⟩
/-- an element of a line -/
def Elem (K : PySem.W.Frag) (x : D) : Prop := (∃ z, x = .str z ∧ z.length ≤ 1000 ∧ ∀ c ∈ cd z, PyData.strOk (one c) = true) ∨ ∃ t, KindD K x t ∧ t ≠ "str"
def isTxB : D → Bool
  | .str z => okText 200 z
  | _ => false
def spIsTxt47 (K : PySem.W.Frag) : DC := fun ds M R => ∃ x, ds = [x] ∧ Elem K x ∧ R (.bl (isTxB x)) M
theorem okD__law_is_text (T : Tx K mg) : FnOk P w K mg base L2.CX0 lv__law_is_text T.f__law_is_text T.d__law_is_text p__law_is_text (lift (spIsTxt47 K)) := by
  refine fnD T.F__law_is_text sc__law_is_text (fun ds M R h => ?_) (fun cdv A outer s H E hr => ?_)
  · first | (obtain ⟨rfl, _⟩ := h; rfl) | (obtain ⟨_, rfl, _⟩ := h; rfl) | (obtain ⟨_, _, rfl, _⟩ := h; rfl) | (obtain ⟨_, _, _, rfl, _⟩ := h; rfl) | (obtain ⟨_, _, _, _, rfl, _⟩ := h; rfl) | (obtain ⟨_, _, _, _, _, rfl, _⟩ := h; rfl) | (obtain ⟨_, _, _, _, _, _, rfl, _⟩ := h; rfl) | (obtain ⟨_, _, _, _, _, _, _, rfl, _⟩ := h; rfl) | (obtain ⟨_, _, _, _, _, _, _, _, rfl, _⟩ := h; rfl)
  · have hr64 := hr.units
    have hc_Namer := T.c_Namer
    have hi_Namer := T.i_Namer
    have hn_Namer_rule := T.na_Namer_rule
    have hn_Namer_width := T.na_Namer_width
    refine ⟨_, (pss_cons (ps_set (i := 1) sc__law_is_text.nd rfl (by first | exact Or.inl rfl | exact Or.inr rfl) pe_str)
        (pss_one (ps_ret (pe_and (pe_callB (call_isiK (K := K) rfl) (by rfl) T.n_isinstance (by decide +kernel) (pa_cons (pv 0) (pa_cons (pe_bt "str" rfl T.n_str (by decide +kernel)) pa_nil))) (pe_and (pe_cmpR op_le (pe_callB (call_lenK (K := K) rfl) (by rfl) T.n_len (by decide +kernel) (pa_cons (pv 0) pa_nil)) pe_int (nomark _)) (pe_one (pe_cmpR (op_eqA (K := K) rfl hr64) (pe_lc (own := [("_law_x", 2)]) rfl sc__law_is_text.nd (pi_str (pv 0)) (blkOk_by (N := ["_law_thing", "_law_abc", "_law_x"]) (sc := L2.defScope s__law_is_text) (by decide +kernel)) (fun _ _ _ _ _ => (pg_name (i := 2) sc__law_is_text.nd rfl (by first | exact Or.inl rfl | exact Or.inr rfl))) (fun _ _ _ _ _ => (pts_one (pt_cmpR (op_ninK (K := K) rfl) (pv 2) (pv 1) (by rfl)))) (fun _ _ _ _ _ => (pv 2))) (pe_lst pa_nil) (nomark _)))))))), ?_⟩
    refine ⟨_, inferInstance, fun ds M R h => ?_⟩
    obtain ⟨x, rfl, h, q⟩ := h
    rw [st__law_is_text]
    walk_at "dx"
    rcases h with ⟨z, rfl, hz, hs⟩ | ⟨t, ⟨ty, ht⟩, n⟩
    · refine ⟨_, true, .str _, kit_ty (by decide +kernel), ?_⟩
      walk_at "dx"
      refine V.x_lenS ⟨by rw [sizeLine_eq]; omega, ?_⟩
      walk_at "dx"
      have q : R (.bl (okText 200 z)) M := q
      by_cases c : z.length ≤ 200
      · rw [decide_eq_true (show ((z.length : Nat) : Int) ≤ 200 by omega), if_pos rfl]
        walk_at "dx"
        refine ⟨by rw [List.length_map, cd_len]; omega, ?_⟩
        refine gather_map (f := id) (p := fun d => match d with | .str y => !isSign (y.cps.toList.getD 0 0) | _ => false) ?_ trivial ?_
        · intro x hx Ky Kn hy hn
          obtain ⟨c, hc, rfl⟩ := List.mem_map.mp hx
          walk_at "dx"
          refine ⟨c, rfl, ?_⟩
          have e1 : (!decide (c ∈ cd (Str.ofString ".0123456789abcdefghijklmnopqrstuvwxyz~"))) = !isSign c := by
            rw [show cd (Str.ofString ".0123456789abcdefghijklmnopqrstuvwxyz~") = U.signs by decide +kernel]
            unfold isSign
            simp
          refine ⟨_, rfl, ?_⟩
          rw [e1]
          by_cases c2 : (!isSign c) = true
          · rw [if_pos c2]
            walk_at "dx"
            exact hy c2
          · rw [if_neg c2]
            exact hn (Bool.eq_false_iff.mpr c2)
        walk_at "dx"
        refine eq_nilD47 (EqOk.of (okPs.list (okPs.all (W := 1) (k := 0) fun d hd => ?_)) (by decide)) ?_
        · rw [List.map_id] at hd
          obtain ⟨c, hc, rfl⟩ := List.mem_map.mp (List.mem_filter.mp hd).1
          exact ⟨_, by rw [sgn, D.py], .str (hs c hc) (Nat.le_refl _)⟩
        · have e : decide ((List.map id (List.filter (fun d => match d with | .str y => !isSign (y.cps.toList.getD 0 0) | _ => false) ((cd z).map sgn))).length = 0) = okText 200 z := by
            rw [List.map_id, List.filter_map, List.length_map]
            unfold okText
            rw [decide_eq_true c, Bool.true_and, Bool.eq_iff_iff, decide_eq_true_eq, List.all_eq_true, List.length_eq_zero_iff, List.filter_eq_nil_iff]
            exact ⟨fun h c hc => by have := h c hc; simpa [sgn, one] using this, fun h c hc => by have := h c hc; simp [sgn, one, this]⟩
          rw [e]
          exact q
      · rw [decide_eq_false (show ¬ ((z.length : Nat) : Int) ≤ 200 by omega), if_neg Bool.false_ne_true]
        rw [show okText 200 z = false from Bool.eq_false_iff.mpr fun h => c (okText_iff.mp h).1] at q
        exact q
    · refine ⟨_, false, ty M, kit_ty (ty_ne ht (by decide) n), ?_⟩
      walk_at "dx"
      have e : isTxB x = false := by
        cases x <;> first | rfl | (exfalso; have := ty M; cases this; exact n rfl)
      rw [e] at q
      exact q
theorem isTx_good {x : D} (h : isTxB x = true) : ∃ z, x = .str z ∧ okText 200 z = true := by
  cases x <;> first | exact ⟨_, rfl, h⟩ | cases h
theorem isTx_bad {x : D} (e : Elem K x) (h : isTxB x = false) : ∀ M, BadT K M 200 x := fun M => by
  rcases e with ⟨z, rfl, hz, _⟩ | ⟨t, ⟨ty, ht⟩, n⟩
  · exact badT_str h (by omega)
  · exact badT_of t (ty M) ht n
def spOdd47 (K : PySem.W.Frag) : DC := fun ds M R => ∃ p : Addr, ds = [potD p] ∧ ∀ x, Elem K x → R x M
theorem elem_kind {x : D} {t : String} (h : KindD K x t) (n : t ≠ "str") : Elem K x := .inr ⟨t, h, n⟩
theorem elem_rep {n : Nat} (h : n ≤ 1000) : Elem K (.str (Txt.mul (Str.ofString "a") (n : Int))) := by
  have e : cd (Txt.mul (Str.ofString "a") (n : Int)) = List.replicate n 97 := by
    rw [show Str.ofString "a" = one 97 by decide +kernel]
    exact mul_rep 97 n
  refine .inl ⟨_, rfl, by rw [← cd_len, e, List.length_replicate]; exact h, fun c hc => ?_⟩
  rw [e] at hc
  rw [List.eq_of_mem_replicate hc]
  decide +kernel
theorem okD__law_odd (T : Tx K mg) : FnOk P w K mg base L2.CX0 lv__law_odd T.f__law_odd T.d__law_odd p__law_odd (lift (spOdd47 K)) := by
  refine fnD T.F__law_odd sc__law_odd (fun ds M R h => ?_) (fun cdv A outer s H E hr => ?_)
  · first | (obtain ⟨rfl, _⟩ := h; rfl) | (obtain ⟨_, rfl, _⟩ := h; rfl) | (obtain ⟨_, _, rfl, _⟩ := h; rfl) | (obtain ⟨_, _, _, rfl, _⟩ := h; rfl) | (obtain ⟨_, _, _, _, rfl, _⟩ := h; rfl) | (obtain ⟨_, _, _, _, _, rfl, _⟩ := h; rfl) | (obtain ⟨_, _, _, _, _, _, rfl, _⟩ := h; rfl) | (obtain ⟨_, _, _, _, _, _, _, rfl, _⟩ := h; rfl) | (obtain ⟨_, _, _, _, _, _, _, _, rfl, _⟩ := h; rfl)
  · have hr64 := hr.units
    have hc_Namer := T.c_Namer
    have hi_Namer := T.i_Namer
    have hn_Namer_rule := T.na_Namer_rule
    have hn_Namer_width := T.na_Namer_width
    refine ⟨_, (pss_cons (ps_set (i := 1) sc__law_odd.nd rfl (by first | exact Or.inl rfl | exact Or.inr rfl) (pe_lst (pa_cons pe_non (pa_cons pe_int (pa_cons pe_bl (pa_cons pe_str (pa_cons pe_str (pa_cons (pe_op op_mulS pe_str pe_int) (pa_cons (pe_op op_mulS pe_str pe_int) (pa_cons pe_str (pa_cons pe_str (pa_cons (pe_lst (pa_cons pe_str pa_nil)) (pa_cons (pe_tup (pa_cons pe_str pa_nil)) (pa_cons (show PE _ _ tDNewE from pe_dnewK) (pa_cons pe_str (pa_cons pe_str (pa_cons pe_str (pa_cons pe_str pa_nil))))))))))))))))))
        (pss_one (ps_ret (pe_call (okD__law_one T) (hr.mono (by decide)) rfl T.m__law_one T.F__law_one.kp T.b__law_one .nil pass0 (pa_cons (pv 0) (pa_cons (pv 1) pa_nil)))))), ?_⟩
    refine ⟨_, inferInstance, fun ds M R h => ?_⟩
    obtain ⟨p, rfl, q⟩ := h
    rw [st__law_odd]
    walk_at "dx"
    refine ⟨_, _, rfl, rfl, Nat.le_of_ble_eq_true rfl, by decide, by decide, ?_⟩
    walk_at "dx"
    refine ⟨_, _, rfl, rfl, Nat.le_of_ble_eq_true rfl, by decide, by decide, ?_⟩
    walk_at "dx"
    intro a0
    walk_at "dx"
    refine one_lstD fun x hx => q _ ?_
    simp only [List.mem_cons, List.not_mem_nil, or_false] at hx
    rcases hx with rfl | rfl | rfl | rfl | rfl | rfl | rfl | rfl | rfl | rfl | rfl | rfl | rfl | rfl | rfl | rfl
    · exact elem_kind (t := "NoneType") ⟨fun M => .non, by decide⟩ (by decide)
    · exact elem_kind (t := "int") ⟨fun M => .int _, by decide⟩ (by decide)
    · exact elem_kind (t := "bool") ⟨fun M => .bl _, by decide⟩ (by decide)
    · exact .inl ⟨_, rfl, by decide +kernel, by decide +kernel⟩
    · exact .inl ⟨_, rfl, by decide +kernel, by decide +kernel⟩
    · exact elem_rep (n := 201) (by decide)
    · exact elem_rep (n := 200) (by decide)
    · exact .inl ⟨_, rfl, by decide +kernel, by decide +kernel⟩
    · exact .inl ⟨_, rfl, by decide +kernel, by decide +kernel⟩
    · exact elem_kind (t := "list") ⟨fun M => .lst _, by decide⟩ (by decide)
    · exact elem_kind (t := "tuple") ⟨fun M => .tup _, by decide⟩ (by decide)
    · exact elem_kind (t := "dict") ⟨fun M => .emp _, by decide⟩ (by decide)
    · exact .inl ⟨_, rfl, by decide +kernel, by decide +kernel⟩
    · exact .inl ⟨_, rfl, by decide +kernel, by decide +kernel⟩
    · exact .inl ⟨_, rfl, by decide +kernel, by decide +kernel⟩
    · exact .inl ⟨_, rfl, by decide +kernel, by decide +kernel⟩
theorem sum_le47 : ∀ (l : List Str), (∀ z ∈ l, z.length ≤ 200) → (l.map (·.length)).sum ≤ 200 * l.length
  | [], _ => Nat.zero_le _
  | z :: l, h => by
    have a := sum_le47 l fun y hy => h y (List.mem_cons_of_mem _ hy)
    have b := h z List.mem_cons_self
    simp only [List.map_cons, List.sum_cons, List.length_cons]
    omega
theorem at047 {x : D} {xs : List D} : atI (x :: xs) 0 = some x := by
  unfold atI ixN
  rw [if_pos (by omega), if_pos (by rw [List.length_cons]; omega)]
  rfl
theorem all_str : ∀ {xs : List D}, (∀ x ∈ xs, ∃ z, x = .str z ∧ okText 200 z = true) → ∃ l : List Str, xs = l.map D.str ∧ ∀ z ∈ l, okText 200 z = true
  | [], _ => ⟨[], rfl, fun _ h => nomatch h⟩
  | x :: xs, h => by
    obtain ⟨l, rfl, hl⟩ := all_str (xs := xs) fun y hy => h y (List.mem_cons_of_mem _ hy)
    obtain ⟨z, rfl, hz⟩ := h x List.mem_cons_self
    exact ⟨z :: l, rfl, fun y hy => by
      rcases List.mem_cons.mp hy with rfl | hy
      · exact hz
      · exact hl y hy⟩
/-- a line, or another value -/
def Line (K : PySem.W.Frag) (d : D) : Prop := (∃ xs, d = .tup xs ∧ xs.length ≤ 7 ∧ ∀ x ∈ xs, Elem K x) ∨ ∃ t, KindD K d t ∧ t ≠ "tuple"
def spLine47 (K : PySem.W.Frag) : DC := fun ds M R => ∃ p : Addr, ds = [potD p] ∧ ∀ d, Line K d → R d M
theorem okD__law_line (T : Tx K mg) : FnOk P w K mg base L2.CX0 lv__law_line T.f__law_line T.d__law_line p__law_line (lift (spLine47 K)) := by
  refine fnD T.F__law_line sc__law_line (fun ds M R h => ?_) (fun cdv A outer s H E hr => ?_)
  · first | (obtain ⟨rfl, _⟩ := h; rfl) | (obtain ⟨_, rfl, _⟩ := h; rfl) | (obtain ⟨_, _, rfl, _⟩ := h; rfl) | (obtain ⟨_, _, _, rfl, _⟩ := h; rfl) | (obtain ⟨_, _, _, _, rfl, _⟩ := h; rfl) | (obtain ⟨_, _, _, _, _, rfl, _⟩ := h; rfl) | (obtain ⟨_, _, _, _, _, _, rfl, _⟩ := h; rfl) | (obtain ⟨_, _, _, _, _, _, _, rfl, _⟩ := h; rfl) | (obtain ⟨_, _, _, _, _, _, _, _, rfl, _⟩ := h; rfl)
  · have hr64 := hr.units
    have hc_Namer := T.c_Namer
    have hi_Namer := T.i_Namer
    have hn_Namer_rule := T.na_Namer_rule
    have hn_Namer_width := T.na_Namer_width
    refine ⟨_, (pss_cons (ps_set (i := 1) sc__law_line.nd rfl (by first | exact Or.inl rfl | exact Or.inr rfl) (pe_tupOfK (K := K) rfl rfl T.n_tuple (pe_lc (own := [("_law_k", 4)]) rfl sc__law_line.nd (pi_range1 rfl T.n_range (pa_cons (pe_call (okD__law_draw T) (hr.mono (by decide)) rfl T.m__law_draw T.F__law_draw.kp T.b__law_draw .nil pass0 (pa_cons (pv 0) (pa_cons pe_int pa_nil))) pa_nil)) (blkOk_by (N := ["_law_source_here", "_law_line_here", "_law_way", "_law_spot", "_law_k"]) (sc := L2.defScope s__law_line) (by decide +kernel)) (fun _ _ _ _ _ => (pg_name (i := 4) sc__law_line.nd rfl (by first | exact Or.inl rfl | exact Or.inr rfl))) (fun _ _ _ _ _ => pts_nil) (fun _ _ _ _ _ => (pe_call (okD__law_stem T) (hr.mono (by decide)) rfl T.m__law_stem T.F__law_stem.kp T.b__law_stem .nil pass0 (pa_cons (pv 0) (pa_cons pe_int pa_nil)))))))
        (pss_cons (ps_par (i := 2) (j := 3) rfl sc__law_line.nd rfl rfl (by decide) rfl rfl (pa_cons (pe_call (okD__law_draw T) (hr.mono (by decide)) rfl T.m__law_draw T.F__law_draw.kp T.b__law_draw .nil pass0 (pa_cons (pv 0) (pa_cons pe_int pa_nil))) (pa_cons (pe_call (okD__law_draw T) (hr.mono (by decide)) rfl T.m__law_draw T.F__law_draw.kp T.b__law_draw .nil pass0 (pa_cons (pv 0) (pa_cons (pe_op op_addU (pe_callB (call_lenK (K := K) rfl) (by rfl) T.n_len (by decide +kernel) (pa_cons (pv 1) pa_nil)) pe_int) pa_nil))) pa_nil)) (by rfl))
        (pss_cons (ps_if (pt_cmpR op_ltU (pv 2) pe_int (nomark _)) (pss_one (ps_ret (pe_op (op_catK (K := K) rfl) (pe_op (op_catK (K := K) rfl) (pe_slice (sl_Z (K := K) rfl) (pv 1) po_none (po_some (pv 3))) (pe_tup (pa_cons (pe_call (okD__law_odd T) (hr.mono (by decide)) rfl T.m__law_odd T.F__law_odd.kp T.b__law_odd .nil pass0 (pa_cons (pv 0) pa_nil)) pa_nil))) (pe_slice (sl_Z (K := K) rfl) (pv 1) (po_some (pe_op op_addU (pv 3) (pe_call (okD__law_draw T) (hr.mono (by decide)) rfl T.m__law_draw T.F__law_draw.kp T.b__law_draw .nil pass0 (pa_cons (pv 0) (pa_cons pe_int pa_nil))))) po_none)))) pss_nil)
        (pss_cons (ps_if (pt_cmpR (op_eqA (K := K) rfl hr64) (pv 2) pe_int (nomark _)) (pss_one (ps_ret (pe_call (okD__law_one T) (hr.mono (by decide)) rfl T.m__law_one T.F__law_one.kp T.b__law_one .nil pass0 (pa_cons (pv 0) (pa_cons (pe_lst (pa_cons (pe_callTy (call_listK (K := K) rfl rfl) (by rfl) T.n_list (by decide +kernel) (pa_cons (pv 1) pa_nil)) (pa_cons pe_non (pa_cons pe_str (pa_cons (show PE _ _ tDNewE from pe_dnewK) (pa_cons pe_int (pa_cons (pe_joinK (K := K) rfl pe_str (pv 1)) pa_nil))))))) pa_nil))))) pss_nil)
        (pss_cons (ps_if (pt_cmpR (op_eqA (K := K) rfl hr64) (pv 2) pe_int (nomark _)) (pss_one (ps_ret (pe_slice (sl_Z (K := K) rfl) (pe_op (op_catK (K := K) rfl) (pe_slice (sl_Z (K := K) rfl) (pe_op (op_catK (K := K) rfl) (pv 1) (pe_tup (pa_cons pe_str (pa_cons pe_str pa_nil)))) po_none (po_some pe_int)) (pe_op (op_repTK (K := K) rfl) (pe_tup (pa_cons pe_str pa_nil)) pe_int)) po_none (po_some pe_int)))) pss_nil)
        (pss_one (ps_ret (pv 1)))))))), ?_⟩
    refine ⟨_, inferInstance, fun ds M R h => ?_⟩
    obtain ⟨p, rfl, q⟩ := h
    rw [st__law_line]
    walk_at "dx"
    refine draw_D (by decide) (by decide) fun n hn => ?_
    walk_at "dx"
    refine ⟨by omega, by omega, trivial, by rw [rgD_len]; omega, ?_⟩
    refine gather_inv (fun i acc M' => M' = M ∧ acc.length = i ∧ ∀ x ∈ acc, ∃ z, x = .str z ∧ okText 9 z = true) ⟨rfl, rfl, fun _ h => nomatch h⟩ ?_ ?_
    · rintro i x acc M' Ky Kn hx ⟨rfl, hl, ha⟩ hy hn
      walk_at "dx"
      refine ⟨p, 9, rfl, by decide, by decide, fun z hz => ?_⟩
      refine hy _ _ trivial ⟨rfl, by rw [List.length_append, hl]; rfl, fun y hy => ?_⟩
      rcases List.mem_append.mp hy with h | h
      · exact ha y h
      · exact ⟨z, List.mem_singleton.mp h, hz⟩
    rintro acc M' ⟨rfl, hl, ha⟩
    rw [rgD_len] at hl
    have hl : acc.length ≤ 3 := by omega
    have el : ∀ x ∈ acc, Elem K x := fun x hx => by
      obtain ⟨z, rfl, hz⟩ := ha x hx
      have := okText_iff.mp hz
      exact .inl ⟨z, rfl, by omega, fun c hc => (show ∀ c ∈ U.signs, PyData.strOk (one c) = true by decide +kernel) c (this.2 c hc)⟩
    refine ⟨acc, .inl rfl, ?_⟩
    walk_at "dx"
    refine draw_D (by decide) (by decide) fun way hw => ?_
    walk_at "dx"
    refine draw_D (by omega) (by omega) fun spot hs => ?_
    walk_at "dx"
    refine x_ite _ (fun c => ?_) (fun c => ?_)
    · walk_at "dx"
      rw [cutG_to]
      walk_at "dx"
      refine ⟨p, rfl, fun x hx => ?_⟩
      walk_at "dx"
      refine V.x_cat (by rw [sizeLine_eq, List.length_take]; show _ + 1 ≤ _; omega) ?_
      walk_at "dx"
      refine draw_D (by decide) (by decide) fun two h2 => ?_
      walk_at "dx"
      rw [show ((spot : Int) + (two : Int)) = ((spot + two : Nat) : Int) by omega, cutG_from]
      refine V.x_cat (by rw [sizeLine_eq, List.length_append, List.length_take, List.length_drop]; show _ + 1 + _ ≤ _; omega) ?_
      refine q _ (.inl ⟨_, rfl, by rw [List.length_append, List.length_append, List.length_take, List.length_drop]; show _ + 1 + _ ≤ 7; omega, fun y hy => ?_⟩)
      rcases List.mem_append.mp hy with hy | hy
      · rcases List.mem_append.mp hy with hy | hy
        · exact el y (List.mem_of_mem_take hy)
        · rw [List.mem_singleton.mp hy]; exact hx
      · exact el y (List.mem_of_mem_drop hy)
    walk_at "dx"
    refine x_ite _ (fun c => ?_) (fun c => ?_)
    · walk_at "dx"
      intro a0
      walk_at "dx"
      obtain ⟨l, rfl, hlo⟩ := all_str (xs := acc) fun x hx => by
        obtain ⟨z, rfl, hz⟩ := ha x hx
        have := okText_iff.mp hz
        exact ⟨z, rfl, okText_iff.mpr ⟨by omega, this.2⟩⟩
      have sl := sum_le47 l fun z hz => (okText_iff.mp (hlo z hz)).1
      rw [List.length_map] at hl
      refine ⟨_, l, rfl, .inr (.inl rfl), ?_, ?_⟩
      · rw [show (Str.ofString "").length = 0 from rfl]
        omega
      walk_at "dx"
      refine one_lstD fun x hx => q _ ?_
      simp only [List.mem_cons, List.not_mem_nil, or_false] at hx
      rcases hx with rfl | rfl | rfl | rfl | rfl | rfl
      · exact .inr ⟨"list", ⟨fun M => .lst _, by decide⟩, by decide⟩
      · exact .inr ⟨"NoneType", ⟨fun M => .non, by decide⟩, by decide⟩
      · exact .inr ⟨"str", ⟨fun M => .str _, by decide⟩, by decide⟩
      · exact .inr ⟨"dict", ⟨fun M => .emp _, by decide⟩, by decide⟩
      · exact .inr ⟨"int", ⟨fun M => .int _, by decide⟩, by decide⟩
      · exact .inr ⟨"str", ⟨fun M => .str _, by decide⟩, by decide⟩
    walk_at "dx"
    refine x_ite _ (fun c => ?_) (fun c => ?_)
    · walk_at "dx"
      refine V.x_cat (by rw [sizeLine_eq]; show _ + 2 ≤ _; omega) ?_
      walk_at "dx"
      rw [show cutG (acc ++ [D.str (Str.ofString "a"), D.str (Str.ofString "b")]) none (some 2) = (acc ++ [D.str (Str.ofString "a"), D.str (Str.ofString "b")]).take 2 from cutG_to _ 2]
      refine ⟨_, _, rfl, rfl, by simp, by decide, by decide, by decide, ?_⟩
      have el2 : ∀ x ∈ acc ++ [D.str (Str.ofString "a"), D.str (Str.ofString "b")], Elem K x := fun x hx => by
        rcases List.mem_append.mp hx with hx | hx
        · exact el x hx
        · simp only [List.mem_cons, List.not_mem_nil, or_false] at hx
          rcases hx with rfl | rfl <;> exact .inl ⟨_, rfl, by decide +kernel, by decide +kernel⟩
      obtain ⟨ys, eys⟩ : ∃ ys, ys = (List.replicate (5 : Int).toNat [D.str (Str.ofString "c")]).flatten := ⟨_, rfl⟩
      have yl : ys.length ≤ 5 := by rw [eys]; decide
      have ye : ∀ x ∈ ys, Elem K x := fun x hx => by
        rw [eys] at hx
        obtain ⟨l, hl, hx⟩ := List.mem_flatten.mp hx
        rw [List.eq_of_mem_replicate hl] at hx
        rw [List.mem_singleton.mp hx]
        exact .inl ⟨_, rfl, by decide +kernel, by decide +kernel⟩
      rw [← eys]
      refine V.x_cat (by rw [sizeLine_eq, List.length_take]; omega) ?_
      walk_at "dx"
      rw [show ∀ zs : List D, cutG zs none (some 7) = zs.take 7 from fun zs => cutG_to zs 7]
      refine q _ (.inl ⟨_, rfl, List.length_take_le _ _, fun x hx => ?_⟩)
      rcases List.mem_append.mp (List.mem_of_mem_take hx) with hx | hx
      · exact el2 x (List.mem_of_mem_take hx)
      · exact ye x hx
    · walk_at "dx"
      exact q _ (.inl ⟨acc, rfl, by omega, el⟩)
def DueD (K : PySem.W.Frag) (d b : D) : Prop := (∃ p, BadTx K d p ∧ b = .tup [.str (Str.ofString "texts"), p]) ∨ (goodLn d ∧ b = .non)
def spDue47 (K : PySem.W.Frag) : DC := fun ds M R => ∃ d, ds = [d] ∧ Line K d ∧ ∀ b, DueD K d b → R b M
theorem okD__law_due (T : Tx K mg) : FnOk P w K mg base L2.CX0 lv__law_due T.f__law_due T.d__law_due p__law_due (lift (spDue47 K)) := by
  refine fnD T.F__law_due sc__law_due (fun ds M R h => ?_) (fun cdv A outer s H E hr => ?_)
  · first | (obtain ⟨rfl, _⟩ := h; rfl) | (obtain ⟨_, rfl, _⟩ := h; rfl) | (obtain ⟨_, _, rfl, _⟩ := h; rfl) | (obtain ⟨_, _, _, rfl, _⟩ := h; rfl) | (obtain ⟨_, _, _, _, rfl, _⟩ := h; rfl) | (obtain ⟨_, _, _, _, _, rfl, _⟩ := h; rfl) | (obtain ⟨_, _, _, _, _, _, rfl, _⟩ := h; rfl) | (obtain ⟨_, _, _, _, _, _, _, rfl, _⟩ := h; rfl) | (obtain ⟨_, _, _, _, _, _, _, _, rfl, _⟩ := h; rfl)
  · have hr64 := hr.units
    have hc_Namer := T.c_Namer
    have hi_Namer := T.i_Namer
    have hn_Namer_rule := T.na_Namer_rule
    have hn_Namer_width := T.na_Namer_width
    refine ⟨_, (pss_cons (ps_if (PW.pt (pw_or (pt_not (pt_val (pe_callB (call_isiK (K := K) rfl) (by rfl) T.n_isinstance (by decide +kernel) (pa_cons (pv 0) (pa_cons (pe_bt "tuple" rfl T.n_tuple (by decide +kernel)) pa_nil))))) (pw_or1 (pt_cmpR op_gt (pe_callB (call_lenK (K := K) rfl) (by rfl) T.n_len (by decide +kernel) (pa_cons (pv 0) pa_nil)) pe_int (nomark _))))) (pss_one (ps_ret (pe_tup (pa_cons pe_str (pa_cons pe_non pa_nil))))) pss_nil)
        (pss_cons (ps_setLc (i := 1) (own := [("_law_k", 2)]) rfl sc__law_due.nd rfl rfl (sw_true rfl rfl rfl (by decide +kernel)) (pi_range1 rfl T.n_range (pa_cons (pe_callB (call_lenK (K := K) rfl) (by rfl) T.n_len (by decide +kernel) (pa_cons (pv 0) pa_nil)) pa_nil)) (blkOk_by (N := ["_law_line_here", "_law_wrong", "_law_k"]) (sc := L2.defScope s__law_due) (by decide +kernel)) (fun _ _ _ _ _ => (pg_name (i := 2) sc__law_due.nd rfl (by first | exact Or.inl rfl | exact Or.inr rfl))) (fun _ _ _ _ _ => (pts_one (pt_not (pt_val (pe_call (okD__law_is_text T) (hr.mono (by decide)) rfl T.m__law_is_text T.F__law_is_text.kp T.b__law_is_text .nil pass0 (pa_cons (pe_ix (ix_K (K := K) rfl) (pv 0) (pv 2) (fun _ _ => rfl)) pa_nil)))))) (fun _ _ _ _ _ => (pv 2)))
        (pss_one (ps_ret (pe_ifExp (pt_cmpR (op_neA (K := K) rfl hr64) (pv 1) (pe_lst pa_nil) (nomark _)) (pe_tup (pa_cons pe_str (pa_cons (pe_ix (ix_K (K := K) rfl) (pv 1) pe_int (fun _ _ => rfl)) pa_nil))) pe_non))))), ?_⟩
    refine ⟨_, inferInstance, fun ds M R h => ?_⟩
    obtain ⟨d, rfl, h, qq⟩ := h
    have q1 : ∀ p, BadTx K d p → R (.tup [.str (Str.ofString "texts"), p]) M := fun p hp => qq _ (.inl ⟨p, hp, rfl⟩)
    have q2 : goodLn d → R .non M := fun g => qq _ (.inr ⟨g, rfl⟩)
    rw [st__law_due]
    walk_at "dx"
    rcases h with ⟨xs, rfl, h7, he⟩ | ⟨t, h, n⟩
    · refine ⟨_, true, .tup _, kit_ty (by decide +kernel), ?_⟩
      walk_at "dx"
      refine x_ite _ (fun c => ?_) (fun c => ?_)
      · walk_at "dx"
        exact q1 _ (.size (by omega))
      have h6 : xs.length ≤ 6 := by omega
      refine V.x_next ?_
      walk_at "dx"
      refine ⟨by omega, by omega, trivial, by rw [rgD_len]; omega, ?_⟩
      rw [rg_nums]
      refine gather_map (f := id) (p := fun d => match d with | .int i => !isTxB (xs.getD i.toNat .non) | _ => false) ?_ trivial ?_
      · intro y hy Ky Kn hky hkn
        obtain ⟨i, hi, rfl⟩ := List.mem_map.mp hy
        have hi := List.mem_range.mp hi
        have hx : xs[i]? = some xs[i] := List.getElem?_eq_getElem hi
        have e : xs.getD (i : Int).toNat .non = xs[i] := by rw [Int.toNat_natCast, List.getD_eq_getElem?_getD, hx]; rfl
        unfold pl
        walk_at "dx"
        refine V.x_ixT (atI_nat hx) ?_
        walk_at "dx"
        refine ⟨_, rfl, he _ (List.getElem_mem hi), ?_⟩
        have hky : (!isTxB xs[i]) = true → Ky (pl i) M := fun h => hky (by show (!isTxB (xs.getD (i : Int).toNat .non)) = true; rw [e]; exact h)
        have hkn : (!isTxB xs[i]) = false → Kn M := fun h => hkn (by show (!isTxB (xs.getD (i : Int).toNat .non)) = false; rw [e]; exact h)
        cases c : isTxB xs[i] with
        | true =>
          rw [c] at hkn
          walk_at "dx"
          exact hkn rfl
        | false =>
          rw [c] at hky
          walk_at "dx"
          exact hky rfl
      obtain ⟨L, eL⟩ : ∃ L, L = (List.range xs.length).filter fun i => !isTxB (xs.getD i .non) := ⟨_, rfl⟩
      have e1 : ((nums xs.length).filter fun d => match d with | .int i => !isTxB (xs.getD i.toNat .non) | _ => false).map id = L.map pl := by
        rw [List.map_id, nums, List.filter_map, eL]
        rfl
      rw [e1]
      have mL : ∀ i, i ∈ L ↔ i < xs.length ∧ isTxB (xs.getD i .non) = false := fun i => by
        rw [eL, List.mem_filter, List.mem_range, Bool.not_eq_true']
      have pw : L.Pairwise (· < ·) := by rw [eL]; exact (List.pairwise_lt_range (n := xs.length)).filter _
      have gd : ∀ {i x}, xs[i]? = some x → xs.getD i .non = x := fun h => by rw [List.getD_eq_getElem?_getD, h]; rfl
      have tx : ∀ i x, xs[i]? = some x → i ∉ L → ∃ z, x = .str z ∧ okText 200 z = true := fun i x hx hn => by
        refine isTx_good ?_
        have hi := (List.getElem?_eq_some_iff.mp hx).1
        have := mt (mL i).mpr hn
        rw [gd hx] at this
        cases h : isTxB x with
        | true => rfl
        | false => exact (this ⟨hi, h⟩).elim
      have ok : EqOk (.lst (L.map pl)) := by
        refine EqOk.of (okPs.all (W := 41) (k := 0) fun d hd => ?_).list (by decide)
        obtain ⟨j, hj, rfl⟩ := List.mem_map.mp hd
        have := ((mL j).mp hj).1
        exact (okP.pl (i := j) (by omega)).mono (by decide) (by decide)
      walk_at "dx"
      refine ne_nilD47 ok ?_
      cases L with
      | nil =>
        rw [show (!decide ((List.map pl ([] : List Nat)).length = 0)) = false from rfl]
        refine ⟨_, rfl, ?_⟩
        rw [if_neg Bool.false_ne_true]
        walk_at "dx"
        obtain ⟨l, rfl, hl⟩ := all_str (xs := xs) fun x hx => by
          obtain ⟨i, hi⟩ := List.getElem?_of_mem hx
          exact tx i x hi (fun z => nomatch z)
        exact q2 ⟨l, rfl, by rw [List.length_map] at h6; exact h6, hl⟩
      | cons k l =>
        rw [show (!decide ((List.map pl (k :: l)).length = 0)) = true by rw [List.map_cons, List.length_cons]; simp]
        refine ⟨_, rfl, ?_⟩
        rw [if_pos rfl]
        walk_at "dx"
        obtain ⟨hk, hb⟩ := (mL k).mp List.mem_cons_self
        have hx : xs[k]? = some xs[k] := List.getElem?_eq_getElem hk
        rw [gd hx] at hb
        refine V.x_ixL (show atI (pl k :: l.map pl) 0 = some (pl k) from at047) ?_
        walk_at "dx"
        refine q1 _ (.elem h6 hx (fun j y hj hy => tx j y hy fun hm => ?_) (isTx_bad (he _ (List.getElem_mem hk)) hb))
        rcases List.mem_cons.mp hm with e | hm
        · omega
        · have := (List.pairwise_cons.mp pw).1 j hm
          omega
    · refine ⟨_, false, h.1 M, kit_ty (ty_ne h.2 (by decide) n), ?_⟩
      walk_at "dx"
      exact q1 _ (.other h n)
end
end G
namespace G
open PySem PySem.Spec PyProof.Rows L2 U V
section
variable {P : Program} {w : World} {K : PySem.W.Frag} {mg : Str → Option Value} {base : Heap}
theorem showN_str {r : Ru} {wd : Nat} (h : wd ≤ 40) : (∀ c ∈ cd (showN r wd), c < 0x110000) ∧ (cd (showN r wd)).length ≤ 20 := by
  have := (show ∀ n, n ≤ 40 → ∀ r ∈ [Ru.count, Ru.free, Ru.tight], (∀ c ∈ cd (showN r n), c < 0x110000) ∧ (cd (showN r n)).length ≤ 20 by decide +kernel) wd h r
  exact this (by cases r <;> simp)
theorem okQ_row {d : D} {z : Str} (h : okQ 300 1 d) (hz : ∀ c ∈ cd z, c < 0x110000 := by decide +kernel) (hl : (cd z).length ≤ 14 := by decide +kernel) : okQ 1000 2 (.tup [.str z, d]) := ((okQs.cons ((okQ.str hz hl).mono (Nat.le_refl _) (Nat.zero_le _)) (okQs.cons h (okQs.nil 0 1))).tuple).mono (by omega) (by decide)
theorem bad_ok {d p : D} (h : BadTx K d p) : okQ 300 1 p := by
  cases h with
  | other h n => exact okQ.non.mono (by decide) (by decide)
  | size h => exact okQ.non.mono (by decide) (by decide)
  | @elem xs i x h6 hx good bad =>
    have := (List.getElem?_eq_some_iff.mp hx).1
    exact (okQ.int (b := 70) (by omega)).mono (by decide) (by decide)
theorem ty_of_int {M : Mem} {d : D} {t : String} {i : Int} (e : d = .int i) (h : TyD K M d (.type t)) : t = "int" := by
  subst e
  cases h
  rfl
theorem one347 {p : Addr} {M : Mem} {R : QD} (q : ∀ r : Ru, R (.str r.str) M) : spOneD [potD p, .lst [.str (Str.ofString "count"), .str (Str.ofString "free"), .str (Str.ofString "tight")]] M R := ⟨p, _, rfl, .inl ⟨_, .inl rfl, by decide, by decide, fun x hx => by
  simp only [List.mem_cons, List.not_mem_nil, or_false] at hx
  rcases hx with rfl | rfl | rfl
  · exact q .count
  · exact q .free
  · exact q .tight⟩⟩
set_option maxHeartbeats 40000000 in
theorem okD__law_right (T : Tx K mg) (B : TBs T base) : FnG P w K mg base lv__law_right T.f__law_right T.d__law_right p__law_right (lift (spRightX T)) := by
  refine fnDXC T.F__law_right sc__law_right T.cq__law_right (fun ds M R h => ?_) (fun A outer s H E hr hgd => ?_)
  · first | (obtain ⟨rfl, _⟩ := h; rfl) | (obtain ⟨_, rfl, _⟩ := h; rfl) | (obtain ⟨_, _, rfl, _⟩ := h; rfl) | (obtain ⟨_, _, _, rfl, _⟩ := h; rfl) | (obtain ⟨_, _, _, _, rfl, _⟩ := h; rfl) | (obtain ⟨_, _, _, _, _, rfl, _⟩ := h; rfl) | (obtain ⟨_, _, _, _, _, _, rfl, _⟩ := h; rfl) | (obtain ⟨_, _, _, _, _, _, _, rfl, _⟩ := h; rfl) | (obtain ⟨_, _, _, _, _, _, _, _, rfl, _⟩ := h; rfl)
  · have hr64 := hr.units
    have hc_Namer := T.c_Namer
    have hi_Namer := T.i_Namer
    have hn_Namer_rule := T.na_Namer_rule
    have hn_Namer_width := T.na_Namer_width
    refine ⟨_, (pss_cons (ps_for PassesOwn.never rfl (pi_range1 rfl T.n_range (pa_cons pe_int pa_nil)) (pg_name (i := 1) sc__law_right.nd rfl (by first | exact Or.inl rfl | exact Or.inr rfl)) (pss_cons (ps_set (i := 2) sc__law_right.nd rfl (by first | exact Or.inl rfl | exact Or.inr rfl) (pe_make T.M_Namer (okF_Namer___init__ T) (hr.mono (by decide)) rfl T.m_Namer T.b_Namer___init__ .nil pass0 (pa_cons (pe_call (okD__law_one T) (hr.mono (by decide)) rfl T.m__law_one T.F__law_one.kp T.b__law_one .nil pass0 (pa_cons (pv 0) (pa_cons (pe_lst (pa_cons pe_str (pa_cons pe_str (pa_cons pe_str pa_nil)))) pa_nil))) (pa_cons (pe_op op_addU pe_int (pe_call (okD__law_draw T) (hr.mono (by decide)) rfl T.m__law_draw T.F__law_draw.kp T.b__law_draw .nil pass0 (pa_cons (pv 0) (pa_cons pe_int pa_nil)))) pa_nil))))
        (pss_cons (ps_set (i := 3) sc__law_right.nd rfl (by first | exact Or.inl rfl | exact Or.inr rfl) (pe_call (okD__law_one T) (hr.mono (by decide)) rfl T.m__law_one T.F__law_one.kp T.b__law_one .nil pass0 (pa_cons (pv 0) (pa_cons (pe_lst (pa_cons pe_non (pa_cons (pe_tup (pa_cons pe_str (pa_cons pe_int pa_nil))) (pa_cons pe_str (pa_cons pe_int (pa_cons (pe_lst (pa_cons (pv 2) pa_nil)) (pa_cons (show PE _ _ tDNewE from pe_dnewK) (pa_cons (pe_callB (call_reprO T.b_Namer___repr__ (okD_Namer___repr__ T) (hr.mono (by decide)) T.t_Namer___repr__.at_ T.t_Namer___repr__.fn) (by rfl) T.n_repr (by decide +kernel) (pa_cons (pv 2) pa_nil)) (pa_cons pe_bl pa_nil))))))))) pa_nil))))
        (pss_cons (ps_set (i := 4) sc__law_right.nd rfl (by first | exact Or.inl rfl | exact Or.inr rfl) (pe_call (okD__law_line T) (hr.mono (by decide)) rfl T.m__law_line T.F__law_line.kp T.b__law_line .nil pass0 (pa_cons (pv 0) pa_nil)))
        (pss_cons (ps_set (i := 5) sc__law_right.nd rfl (by first | exact Or.inl rfl | exact Or.inr rfl) (pe_call (okD__law_due T) (hr.mono (by decide)) rfl T.m__law_due T.F__law_due.kp T.b__law_due .nil pass0 (pa_cons (pv 4) pa_nil)))
        (pss_cons (ps_set (i := 6) sc__law_right.nd rfl (by first | exact Or.inl rfl | exact Or.inr rfl) (pe_call (okD__law_one T) (hr.mono (by decide)) rfl T.m__law_one T.F__law_one.kp T.b__law_one .nil pass0 (pa_cons (pv 0) (pa_cons (pe_lst (pa_cons pe_int (pa_cons pe_int (pa_cons (pe_un un_neg pe_int) (pa_cons pe_int (pa_cons pe_non (pa_cons pe_bl (pa_cons pe_str (pa_cons (pe_lst (pa_cons pe_int pa_nil)) (pa_cons (pe_op op_pow pe_int pe_int) (pa_cons pe_bl (pa_cons (pe_call (okD__law_draw T) (hr.mono (by decide)) rfl T.m__law_draw T.F__law_draw.kp T.b__law_draw .nil pass0 (pa_cons (pv 0) (pa_cons pe_int pa_nil))) pa_nil)))))))))))) pa_nil))))
        (pss_cons (ps_if (pt_not (pt_val (pe_callG (okD__law_fits T) (hr.mono (by decide)) hgd rfl T.m__law_fits T.F__law_fits.kp T.b__law_fits (pa_cons (show PE _ _ (tLamP _ (lamN "_law_right") _ _) from pe_lamQ (k := 7) (c := T.cc__law_right) (P := T.PP__law_right) rfl T.m__law_tried T.F__law_tried T.b__law_tried sc__law_tried rfl (.inl rfl) (fun cdv => tried__law_tried T rfl rfl rfl rfl rfl (L2H.roomH_of (hr.mono (by decide))) cdv _) B.t__law_right rfl (hr.mono (by decide)) (LamX.lamS_by (sc := L2.defScope s__law_right) (by decide +kernel)) rfl (fun _ _ _ _ _ => rfl) (fun A outer s H E f c' hr2 => ⟨_, (pe_call (okX_namesJ T) (hr2.mono (by decide)) rfl T.m_names T.F_names.kp T.b_names .nil (passX takesL) (pa_cons (pv 2) (pa_cons (pv 4) pa_nil))), rfl⟩)) (pa_cons (pv 5) pa_nil))))) (pss_one (ps_ret pe_bl)) pss_nil)
        (pss_cons (ps_if (pt_not (pt_val (pe_callG (okD__law_fits T) (hr.mono (by decide)) hgd rfl T.m__law_fits T.F__law_fits.kp T.b__law_fits (pa_cons (show PE _ _ (tLamP _ (lamN "_law_right") _ _) from pe_lamQ (k := 7) (c := T.cc__law_right) (P := T.PP__law_right) rfl T.m__law_tried T.F__law_tried T.b__law_tried sc__law_tried rfl (.inl rfl) (fun cdv => tried__law_tried T rfl rfl rfl rfl rfl (L2H.roomH_of (hr.mono (by decide))) cdv _) B.t__law_right rfl (hr.mono (by decide)) (LamX.lamS_by (sc := L2.defScope s__law_right) (by decide +kernel)) rfl (fun _ _ _ _ _ => rfl) (fun A outer s H E f c' hr2 => ⟨_, (pe_call (okX_meetingJ T) (hr2.mono (by decide)) rfl T.m_meeting T.F_meeting.kp T.b_meeting .nil (passX takesL) (pa_cons (pv 2) (pa_cons (pv 4) pa_nil))), rfl⟩)) (pa_cons (pv 5) pa_nil))))) (pss_one (ps_ret pe_bl)) pss_nil)
        (pss_cons (ps_set (i := 7) sc__law_right.nd rfl (by first | exact Or.inl rfl | exact Or.inr rfl) (pv 5))
        (pss_cons (ps_set (i := 8) sc__law_right.nd rfl (by first | exact Or.inl rfl | exact Or.inr rfl) (pe_and (pe_callB (call_isiK (K := K) rfl) (by rfl) T.n_isinstance (by decide +kernel) (pa_cons (pv 6) (pa_cons (pe_bt "int" rfl T.n_int (by decide +kernel)) pa_nil))) (pe_one (pe_not (pe_callB (call_isiK (K := K) rfl) (by rfl) T.n_isinstance (by decide +kernel) (pa_cons (pv 6) (pa_cons (pe_bt "bool" rfl T.n_bool (by decide +kernel)) pa_nil)))))))
        (pss_cons (ps_if (PW.pt (pw_and (pt_cmpR op_isN1 (pv 5) pe_non (nomark _)) (pw_and1 (PW.pt (pw_or (pt_not (pt_val (pv 8))) (pw_or1 (pt_not (pt_chain op_le op_ltU pe_int (pv 6) (pe_callB (call_lenK (K := K) rfl) (by rfl) T.n_len (by decide +kernel) (pa_cons (pv 4) pa_nil)))))))))) (pss_one (ps_set (i := 7) sc__law_right.nd rfl (by first | exact Or.inl rfl | exact Or.inr rfl) (pe_tup (pa_cons pe_str (pa_cons (pv 6) pa_nil))))) pss_nil)
        (pss_cons (ps_if (pt_not (pt_val (pe_callG (okD__law_fits T) (hr.mono (by decide)) hgd rfl T.m__law_fits T.F__law_fits.kp T.b__law_fits (pa_cons (show PE _ _ (tLamP _ (lamN "_law_right") _ _) from pe_lamQ (k := 7) (c := T.cc__law_right) (P := T.PP__law_right) rfl T.m__law_tried T.F__law_tried T.b__law_tried sc__law_tried rfl (.inl rfl) (fun cdv => tried__law_tried T rfl rfl rfl rfl rfl (L2H.roomH_of (hr.mono (by decide))) cdv _) B.t__law_right rfl (hr.mono (by decide)) (LamX.lamS_by (sc := L2.defScope s__law_right) (by decide +kernel)) rfl (fun _ _ _ _ _ => rfl) (fun A outer s H E f c' hr2 => ⟨_, (pe_call (okX_possJ T) (hr2.mono (by decide)) rfl T.m_possible_names T.F_possible_names.kp T.b_possible_names .nil (passX takesL) (pa_cons (pv 2) (pa_cons (pv 4) (pa_cons (pv 6) pa_nil)))), rfl⟩)) (pa_cons (pv 7) pa_nil))))) (pss_one (ps_ret pe_bl)) pss_nil)
        (pss_cons (ps_set (i := 9) sc__law_right.nd rfl (by first | exact Or.inl rfl | exact Or.inr rfl) (pe_lstM (pa_cons (show PE _ _ (tLamP _ (lamN "_law_right") _ _) from pe_lamQ (k := 7) (c := T.cc__law_right) (P := T.PP__law_right) rfl T.m__law_tried T.F__law_tried T.b__law_tried sc__law_tried rfl (.inl rfl) (fun cdv => tried__law_tried T rfl rfl rfl rfl rfl (L2H.roomH_of (hr.mono (by decide))) cdv _) B.t__law_right rfl (hr.mono (by decide)) (LamX.lamS_by (sc := L2.defScope s__law_right) (by decide +kernel)) rfl (fun _ _ _ _ _ => rfl) (fun A outer s H E f c' hr2 => ⟨_, (pe_call (okX_namesJ T) (hr2.mono (by decide)) rfl T.m_names T.F_names.kp T.b_names .nil (passX takesL) (pa_cons (pv 3) (pa_cons (pv 4) pa_nil))), rfl⟩)) pa_nil)))
        (pss_cons (ps_expr (pe_bm PySem.F.plainAttrs_list PySem.F.slot_list_append PySem.F.type_list_append mt_append (pv 9) (pa_cons (show PE _ _ (tLamP _ (lamN "_law_right") _ _) from pe_lamQ (k := 7) (c := T.cc__law_right) (P := T.PP__law_right) rfl T.m__law_tried T.F__law_tried T.b__law_tried sc__law_tried rfl (.inl rfl) (fun cdv => tried__law_tried T rfl rfl rfl rfl rfl (L2H.roomH_of (hr.mono (by decide))) cdv _) B.t__law_right rfl (hr.mono (by decide)) (LamX.lamS_by (sc := L2.defScope s__law_right) (by decide +kernel)) rfl (fun _ _ _ _ _ => rfl) (fun A outer s H E f c' hr2 => ⟨_, (pe_call (okX_meetingJ T) (hr2.mono (by decide)) rfl T.m_meeting T.F_meeting.kp T.b_meeting .nil (passX takesL) (pa_cons (pv 3) (pa_cons (pv 4) pa_nil))), rfl⟩)) pa_nil)))
        (pss_cons (ps_expr (pe_bm PySem.F.plainAttrs_list PySem.F.slot_list_append PySem.F.type_list_append mt_append (pv 9) (pa_cons (show PE _ _ (tLamP _ (lamN "_law_right") _ _) from pe_lamQ (k := 7) (c := T.cc__law_right) (P := T.PP__law_right) rfl T.m__law_tried T.F__law_tried T.b__law_tried sc__law_tried rfl (.inl rfl) (fun cdv => tried__law_tried T rfl rfl rfl rfl rfl (L2H.roomH_of (hr.mono (by decide))) cdv _) B.t__law_right rfl (hr.mono (by decide)) (LamX.lamS_by (sc := L2.defScope s__law_right) (by decide +kernel)) rfl (fun _ _ _ _ _ => rfl) (fun A outer s H E f c' hr2 => ⟨_, (pe_call (okX_possJ T) (hr2.mono (by decide)) rfl T.m_possible_names T.F_possible_names.kp T.b_possible_names .nil (passX takesL) (pa_cons (pv 3) (pa_cons (pv 4) (pa_cons (pv 6) pa_nil)))), rfl⟩)) pa_nil)))
        (pss_one (ps_if (pt_cmpR (op_neA (K := K) rfl hr64) (pe_lc (own := [("_law_each", 10)]) rfl sc__law_right.nd (pi_listK (K := K) rfl (pv 9)) (blkOk_by (N := ["_law_source_here", "_law_turn", "_law_mine", "_law_none", "_law_line_here", "_law_due_here", "_law_at", "_law_last", "_law_is_count", "_law_told", "_law_each"]) (sc := L2.defScope s__law_right) (by decide +kernel)) (fun _ _ _ _ _ => (pg_name (i := 10) sc__law_right.nd rfl (by first | exact Or.inl rfl | exact Or.inr rfl))) (fun _ _ _ _ _ => (pts_one (pt_not (pt_val (pe_callG (okD__law_is T) (hr.mono (by decide)) hgd rfl T.m__law_is T.F__law_is.kp T.b__law_is (pa_cons (pv 10) (pa_cons (pe_tup (pa_cons pe_str (pa_cons (pv 3) pa_nil))) pa_nil))))))) (fun _ _ _ _ _ => (pv 10))) (pe_lst pa_nil) (nomark _)) (pss_one (ps_ret pe_bl)) pss_nil)))))))))))))))))
        (pss_one (ps_ret pe_bl))), ?_⟩
    refine ⟨_, inferInstance, fun ds M R h => ?_⟩
    obtain ⟨p, rfl, tm, q⟩ := h
    have ht := tm.t__law_right
    rw [st__law_right]
    walk_at "dx"
    refine ⟨by omega, by omega, trivial, ?_⟩
    refine loop_inv (fun i δ M' => (Mle M M' ∧ TMs T M') ∧ ∃ u1 u2 u3 u4 u5 u6 u7 u8 u9 u10, δ = [some (potD p), u1, u2, u3, u4, u5, u6, u7, u8, u9, u10]) ⟨⟨mle_refl, tm⟩, _, _, _, _, _, _, _, _, _, _, rfl⟩ ?_ ?_
    · rintro i x δ M' Kc hx ⟨⟨hle, tm⟩, u1, u2, u3, u4, u5, u6, u7, u8, u9, u10, rfl⟩ hk
      have ht := tm.t__law_right
      walk_at "dx"
      refine one347 fun r => ?_
      walk_at "dx"
      refine draw_D (by omega) (by omega) fun n0 hn0 => ?_
      obtain ⟨wd, hwd, h6, h40⟩ : ∃ wd : Nat, (6 + ((n0 : Nat) : Int)) = (wd : Nat) ∧ 6 ≤ wd ∧ wd ≤ 40 := ⟨6 + n0, by omega, by omega, by omega⟩
      walk_at "dx"
      rw [hwd]
      refine mk_nm h6 h40 ?_
      walk_at "dx"
      intro a0
      walk_at "dx"
      refine ⟨_, _, _, rfl, .inl rfl, r, wd, rfl, h40, _, rfl, ?_⟩
      walk_at "dx"
      refine one_lstD fun no hno => ?_
      have sn := showN_str (r := r) h40
      have hn : (∃ t, KindD K no t) ∧ ((∃ W k, okQ W k (.tup [.str (Str.ofString "namer"), no]) ∧ k ≤ 40 ∧ W ≤ 16000) ∨ ∃ (r : Ru) (wd : Nat), (.tup [.str (Str.ofString "namer"), no] : D) = .tup [.str (Str.ofString "namer"), .lst [namerD T.C_Namer r wd]] ∧ wd ≤ 40) := by
        have row : ∀ {d : D}, okQ 300 1 d → (∃ W k, okQ W k (.tup [.str (Str.ofString "namer"), d]) ∧ k ≤ 40 ∧ W ≤ 16000) := fun h => ⟨_, _, okQ_row h, by decide, by decide⟩
        simp only [List.mem_cons, List.not_mem_nil, or_false] at hno
        rcases hno with rfl | rfl | rfl | rfl | rfl | rfl | rfl | rfl
        · exact ⟨⟨"NoneType", fun M => .non, by decide⟩, .inl (row (okQ.non.mono (by decide) (by decide)))⟩
        · exact ⟨⟨"tuple", fun M => .tup _, by decide⟩, .inl (row ((okQs.cons ((okQ.str (n := 9) (by decide +kernel) (by decide +kernel)).mono (Nat.le_refl _) (Nat.zero_le _)) (okQs.cons ((okQ.int (b := 70) (by decide)).mono (Nat.le_refl _) (Nat.zero_le _)) (okQs.nil 0 0))).tuple.mono (by decide) (by decide)))⟩
        · exact ⟨⟨"str", fun M => .str _, by decide⟩, .inl (row ((okQ.str (n := 9) (by decide +kernel) (by decide +kernel)).mono (by decide) (by decide)))⟩
        · exact ⟨⟨"int", fun M => .int _, by decide⟩, .inl (row ((okQ.int (b := 70) (by decide)).mono (by decide) (by decide)))⟩
        · exact ⟨⟨"list", fun M => .lst _, by decide⟩, .inr ⟨r, wd, rfl, h40⟩⟩
        · exact ⟨⟨"dict", fun M => .emp _, by decide⟩, .inl (row ((okQ.emp _).mono (by decide) (by decide)))⟩
        · exact ⟨⟨"str", fun M => .str _, by decide⟩, .inl (row ((okQ.str (n := 20) sn.1 sn.2).mono (by decide) (by decide)))⟩
        · exact ⟨⟨"bool", fun M => .bl _, by decide⟩, .inl (row ((okQ.bl _).mono (by decide) (by decide)))⟩
      clear hno
      obtain ⟨hnk, hnr⟩ := hn
      walk_at "dx"
      refine ⟨p, rfl, fun line hl => ?_⟩
      walk_at "dx"
      refine ⟨line, rfl, hl, fun due hd => ?_⟩
      walk_at "dx"
      refine x_IC1 ⟨show CPow 10 18 by unfold CPow; decide, ?_⟩
      walk_at "dx"
      refine draw_D (by decide) (by decide) fun n5 h5 => ?_
      walk_at "dx"
      refine one_lstD fun at_ hat => ?_
      have ha : ∃ t, KindD K at_ t ∧ okQ 75 1 at_ := by
        simp only [List.mem_cons, List.not_mem_nil, or_false] at hat
        rcases hat with rfl | rfl | rfl | rfl | rfl | rfl | rfl | rfl | rfl | rfl | rfl
        · exact ⟨"int", ⟨fun M => .int _, by decide⟩, (okQ.int (b := 70) (by decide)).mono (by decide) (by decide)⟩
        · exact ⟨"int", ⟨fun M => .int _, by decide⟩, (okQ.int (b := 70) (by decide)).mono (by decide) (by decide)⟩
        · exact ⟨"int", ⟨fun M => .int _, by decide⟩, (okQ.int (b := 70) (by decide)).mono (by decide) (by decide)⟩
        · exact ⟨"int", ⟨fun M => .int _, by decide⟩, (okQ.int (b := 70) (by decide)).mono (by decide) (by decide)⟩
        · exact ⟨"NoneType", ⟨fun M => .non, by decide⟩, okQ.non.mono (by decide) (by decide)⟩
        · exact ⟨"bool", ⟨fun M => .bl _, by decide⟩, (okQ.bl _).mono (by decide) (by decide)⟩
        · exact ⟨"str", ⟨fun M => .str _, by decide⟩, (okQ.str (n := 5) (by decide +kernel) (by decide +kernel)).mono (by decide) (by decide)⟩
        · exact ⟨"list", ⟨fun M => .lst _, by decide⟩, (okQs.cons (okQ.int (b := 70) (by decide)) (okQs.nil 0 0)).list.mono (by decide) (by decide)⟩
        · exact ⟨"int", ⟨fun M => .int _, by decide⟩, (okQ.int (b := 70) (by decide +kernel)).mono (by decide) (by decide)⟩
        · exact ⟨"bool", ⟨fun M => .bl _, by decide⟩, (okQ.bl _).mono (by decide) (by decide)⟩
        · exact ⟨"int", ⟨fun M => .int _, by decide⟩, (okQ.int (b := 70) (by omega)).mono (by decide) (by decide)⟩
      clear hat
      obtain ⟨ta, hak, har⟩ := ha
      walk_at "dx"
      have k1 : ∀ s : String, s ∈ tyNames → kitB s "int" = some (s == "int" || s == "bool") ∧ kitB s "bool" = some (s == "bool") := by decide +kernel
      refine x_lamT ht ?_
      walk_at "dx"
      rcases hd with ⟨pp, hb, rfl⟩ | ⟨⟨l, rfl, hl6, hlo⟩, rfl⟩
      · have od : ∃ W k, okQ W k (.tup [.str (Str.ofString "texts"), pp]) ∧ k ≤ 40 ∧ W ≤ 16000 := ⟨_, _, okQ_row (bad_ok hb), by decide, by decide⟩
        refine .inr ⟨_, _, rfl, .inr ⟨⟨r, wd, rfl⟩, pp, hb, ref_val T (any_InvalidTexts T) (rf_InvalidTexts T) rfl T.na_InvalidTexts_index ?_⟩⟩
        walk_at "dx"
        refine ⟨_, _, rfl, tm.sys, ?_, .inr ⟨rfl, rfl, od⟩⟩
        walk_at "dx"
        refine x_lamT ht ?_
        walk_at "dx"
        refine .inr ⟨_, _, rfl, .inr ⟨⟨r, wd, rfl⟩, pp, hb, ref_val T (any_InvalidTexts T) (rf_InvalidTexts T) rfl T.na_InvalidTexts_index ?_⟩⟩
        walk_at "dx"
        refine ⟨_, _, rfl, tm.sys, ?_, .inr ⟨rfl, rfl, od⟩⟩
        walk_at "dx"
        refine ⟨_, _, hak.1 _, kit_ty (k1 ta hak.2).1, ?_⟩
        dsimp only
        by_cases ca : ta = "int"
        case' pos =>
          subst ca
          rw [show (("int" : String) == "int" || ("int" : String) == "bool") = true by decide]
          walk_at "dx"
          refine ⟨_, _, hak.1 _, kit_ty (k1 _ hak.2).2, ?_⟩
          rw [show (("int" : String) == "bool") = false by decide]
          walk_at "dx"
        case' neg =>
          by_cases cb : ta = "bool"
          case' pos =>
            subst cb
            rw [show (("bool" : String) == "int" || ("bool" : String) == "bool") = true by decide]
            walk_at "dx"
            refine ⟨_, _, hak.1 _, kit_ty (k1 _ hak.2).2, ?_⟩
            rw [show (("bool" : String) == "bool") = true by decide]
            walk_at "dx"
          case' neg =>
            rw [show (ta == "int" || ta == "bool") = false by simp [ca, cb]]
            walk_at "dx"
        all_goals
          rw [if_neg (show ¬ V.isNon (D.tup [D.str (Str.ofString "texts"), pp]) = true from Bool.false_ne_true)]
          walk_at "dx"
          refine x_lamT ht ?_
          walk_at "dx"
          refine .inr ⟨_, _, _, rfl, .inl (.inr ⟨⟨r, wd, rfl⟩, pp, hb, ref_val T (any_InvalidTexts T) (rf_InvalidTexts T) rfl T.na_InvalidTexts_index ?_⟩)⟩
          walk_at "dx"
          refine ⟨_, _, rfl, tm.sys, ?_, .inr ⟨rfl, rfl, od⟩⟩
          walk_at "dx"
          refine x_lamT ht ?_
          walk_at "dx"
          refine .inr ⟨_, _, rfl, .inl ⟨hnk, ref_val T (any_NotANamer T) (rf_NotANamer T) rfl T.na_NotANamer_value ?_⟩⟩
          walk_at "dx"
          intro a1 ha1
          have tM := tm.set ha1
          walk_at "dx"
          refine x_lamT (tM _).t__law_right ?_
          walk_at "dx"
          refine .inr ⟨_, _, rfl, .inl ⟨hnk, ref_val T (any_NotANamer T) (rf_NotANamer T) rfl T.na_NotANamer_value ?_⟩⟩
          walk_at "dx"
          refine x_lamT (tM _).t__law_right ?_
          walk_at "dx"
          refine .inr ⟨_, _, _, rfl, .inl (.inl ⟨hnk, ref_val T (any_NotANamer T) (rf_NotANamer T) rfl T.na_NotANamer_value ?_⟩)⟩
          walk_at "dx"
          refine x_diP mset_same ?_
          refine ⟨mset_same, by simp, ?_⟩
          refine gather_map (p := fun _ => false) (f := id) ?_ mset_same ?_
          · intro y hy Ky Kn h1 h2
            have ey : y = .tup [.str (Str.ofString "namer"), no] := by
              simp only [List.mem_append, List.mem_singleton] at hy
              rcases hy with (e | e) | e <;> exact e
            rw [ey]
            walk_at "dx"
            refine ⟨_, rfl, hnr, (tM _).sys, ?_⟩
            walk_at "dx"
            exact h2 rfl
          rw [List.filter_eq_nil_iff.mpr (fun _ _ => Bool.false_ne_true)]
          walk_at "dx"
          refine ne_nilD47 (EqOk.of (okPs.nil 0 0).list (by decide)) ?_
          walk_at "dx"
          rw [if_neg (show ¬ (!decide ((List.map id ([] : List D)).length = 0)) = true from Bool.false_ne_true)]
          walk_at "dx"
          exact (hk _ _ trivial ⟨⟨fun b mo h => mle_set ha1 b mo (hle b mo h), tM _⟩, _, _, _, _, _, _, _, _, _, _, rfl⟩).2
      · refine .inl ⟨r, wd, l, rfl, h6, h40, hl6, hlo, ?_⟩
        walk_at "dx"
        refine ⟨_, _, rfl, tm.sys, ?_, .inl ⟨rfl, _, rfl⟩⟩
        walk_at "dx"
        refine x_lamT ht ?_
        walk_at "dx"
        refine .inl ⟨r, wd, l, rfl, h6, h40, hl6, hlo, ?_⟩
        walk_at "dx"
        refine ⟨_, _, rfl, tm.sys, ?_, .inl ⟨rfl, _, rfl⟩⟩
        walk_at "dx"
        refine ⟨_, _, hak.1 _, kit_ty (k1 ta hak.2).1, ?_⟩
        dsimp only
        by_cases ca : ta = "int"
        case' pos =>
          subst ca
          rw [show (("int" : String) == "int" || ("int" : String) == "bool") = true by decide]
          walk_at "dx"
          refine ⟨_, _, hak.1 _, kit_ty (k1 _ hak.2).2, ?_⟩
          rw [show (("int" : String) == "bool") = false by decide]
          walk_at "dx"
          rw [if_pos (show V.isNon D.non = true from rfl)]
          walk_at "dx"
          obtain ⟨i, rfl⟩ := ty_int (hak.1 M')
          rw [if_neg (show ¬ (!!false) = true by decide)]
          walk_at "dx"
          refine x_ite _ (fun c0 => ?yes) (fun c0 => ?no)
          case' no =>
              walk_at "dx"
              refine x_lamT ht ?_
              walk_at "dx"
              refine .inr ⟨_, _, _, rfl, .inr ⟨⟨r, wd, rfl⟩, l, rfl, hl6, hlo, ⟨_, hak, fun j e => by cases e; omega⟩, ref_val T (any_InvalidPlace T) (rf_InvalidPlace T) rfl T.na_InvalidPlace_value ?_⟩⟩
              walk_at "dx"
              refine ⟨_, _, rfl, tm.sys, ?_, .inr ⟨rfl, rfl, ⟨_, _, okQ_row (har.mono (by decide) (by decide)), by decide, by decide⟩⟩⟩
          case' yes =>
            walk_at "dx"
            refine x_iten (fun c1 => ?out) (fun c1 => ?inn)
            case' out =>
              rw [List.length_map] at c1
              walk_at "dx"
              refine x_lamT ht ?_
              walk_at "dx"
              refine .inr ⟨_, _, _, rfl, .inr ⟨⟨r, wd, rfl⟩, l, rfl, hl6, hlo, ⟨_, hak, fun j e => by cases e; omega⟩, ref_val T (any_InvalidPlace T) (rf_InvalidPlace T) rfl T.na_InvalidPlace_value ?_⟩⟩
              walk_at "dx"
              refine ⟨_, _, rfl, tm.sys, ?_, .inr ⟨rfl, rfl, ⟨_, _, okQ_row (har.mono (by decide) (by decide)), by decide, by decide⟩⟩⟩
            case' inn =>
              rw [List.length_map] at c1
              obtain ⟨n, rfl⟩ := Int.eq_ofNat_of_zero_le c0
              refine V.x_next ?_
              walk_at "dx"
              refine x_lamT ht ?_
              walk_at "dx"
              refine .inl ⟨r, wd, l, n, _, rfl, rfl, h6, h40, hl6, hlo, by omega, fun ys hp hs => ?_⟩
              walk_at "dx"
              refine ⟨_, _, rfl, tm.sys, ?_, .inl ⟨rfl, _, rfl⟩⟩
        case' neg =>
          by_cases cb : ta = "bool"
          case' pos =>
            subst cb
            rw [show (("bool" : String) == "int" || ("bool" : String) == "bool") = true by decide]
            walk_at "dx"
            refine ⟨_, _, hak.1 _, kit_ty (k1 _ hak.2).2, ?_⟩
            rw [show (("bool" : String) == "bool") = true by decide]
            walk_at "dx"
            rw [if_pos (show V.isNon D.non = true from rfl)]
            walk_at "dx"
            rw [if_pos (show (!!true) = true from rfl), if_pos rfl]
            walk_at "dx"
            refine x_lamT ht ?_
            walk_at "dx"
            refine .inr ⟨_, _, _, rfl, .inr ⟨⟨r, wd, rfl⟩, l, rfl, hl6, hlo, ⟨_, hak, fun i e => absurd (ty_of_int e (hak.1 M')) (by decide)⟩, ref_val T (any_InvalidPlace T) (rf_InvalidPlace T) rfl T.na_InvalidPlace_value ?_⟩⟩
            walk_at "dx"
            refine ⟨_, _, rfl, tm.sys, ?_, .inr ⟨rfl, rfl, ⟨_, _, okQ_row (har.mono (by decide) (by decide)), by decide, by decide⟩⟩⟩
            walk_at "dx"
          case' neg =>
            rw [show (ta == "int" || ta == "bool") = false by simp [ca, cb]]
            walk_at "dx"
            rw [if_pos (show V.isNon D.non = true from rfl)]
            walk_at "dx"
            refine x_lamT ht ?_
            walk_at "dx"
            refine .inr ⟨_, _, _, rfl, .inr ⟨⟨r, wd, rfl⟩, l, rfl, hl6, hlo, ⟨_, hak, fun i e => absurd (ty_of_int e (hak.1 M')) ca⟩, ref_val T (any_InvalidPlace T) (rf_InvalidPlace T) rfl T.na_InvalidPlace_value ?_⟩⟩
            walk_at "dx"
            refine ⟨_, _, rfl, tm.sys, ?_, .inr ⟨rfl, rfl, ⟨_, _, okQ_row (har.mono (by decide) (by decide)), by decide, by decide⟩⟩⟩
            walk_at "dx"
        all_goals
          walk_at "dx"
          refine x_lamT ht ?_
          walk_at "dx"
          refine .inr ⟨_, _, rfl, .inl ⟨hnk, ref_val T (any_NotANamer T) (rf_NotANamer T) rfl T.na_NotANamer_value ?_⟩⟩
          walk_at "dx"
          intro a1 ha1
          have tM := tm.set ha1
          walk_at "dx"
          refine x_lamT (tM _).t__law_right ?_
          walk_at "dx"
          refine .inr ⟨_, _, rfl, .inl ⟨hnk, ref_val T (any_NotANamer T) (rf_NotANamer T) rfl T.na_NotANamer_value ?_⟩⟩
          walk_at "dx"
          refine x_lamT (tM _).t__law_right ?_
          walk_at "dx"
          refine .inr ⟨_, _, _, rfl, .inl (.inl ⟨hnk, ref_val T (any_NotANamer T) (rf_NotANamer T) rfl T.na_NotANamer_value ?_⟩)⟩
          walk_at "dx"
          refine x_diP mset_same ?_
          refine ⟨mset_same, by simp, ?_⟩
          refine gather_map (p := fun _ => false) (f := id) ?_ mset_same ?_
          · intro y hy Ky Kn h1 h2
            have ey : y = .tup [.str (Str.ofString "namer"), no] := by
              simp only [List.mem_append, List.mem_singleton] at hy
              rcases hy with (e | e) | e <;> exact e
            rw [ey]
            walk_at "dx"
            refine ⟨_, rfl, hnr, (tM _).sys, ?_⟩
            walk_at "dx"
            exact h2 rfl
          rw [List.filter_eq_nil_iff.mpr (fun _ _ => Bool.false_ne_true)]
          walk_at "dx"
          refine ne_nilD47 (EqOk.of (okPs.nil 0 0).list (by decide)) ?_
          walk_at "dx"
          rw [if_neg (show ¬ (!decide ((List.map id ([] : List D)).length = 0)) = true from Bool.false_ne_true)]
          walk_at "dx"
          exact (hk _ _ trivial ⟨⟨fun b mo h => mle_set ha1 b mo (hle b mo h), tM _⟩, _, _, _, _, _, _, _, _, _, _, rfl⟩).2
    · rintro δ M' ⟨⟨hle, _⟩, u1, u2, u3, u4, u5, u6, u7, u8, u9, u10, rfl⟩
      walk_at "dx"
      exact ⟨_, hle, q⟩
end
end G
namespace G
open PySem PySem.Spec PyProof.Rows L2 U V
section
variable {P : Program} {w : World} {K : PySem.W.Frag} {mg : Str → Option Value} {base : Heap}
theorem okD__law_source (T : Tx K mg) : FnOk P w K mg base L2.CX0 lv__law_source T.f__law_source T.d__law_source p__law_source (lift (spPotD K)) := fn_weak (fn_newPotN (GO.ok1__law_source T) rfl) pot_lift
theorem okD_law (T : Tx K mg) (B : TBs T base) : FnG P w K mg base lv_law T.f_law T.d_law p_law (lift (spLawD K (Ts T))) := by
  refine fnDX T.F_law sc_law (fun ds M R h => ?_) (fun cdv A outer s H E hr hgd => ?_)
  · first | (obtain ⟨rfl, _⟩ := h; rfl) | (obtain ⟨_, rfl, _⟩ := h; rfl) | (obtain ⟨_, _, rfl, _⟩ := h; rfl) | (obtain ⟨_, _, _, rfl, _⟩ := h; rfl) | (obtain ⟨_, _, _, _, rfl, _⟩ := h; rfl) | (obtain ⟨_, _, _, _, _, rfl, _⟩ := h; rfl) | (obtain ⟨_, _, _, _, _, _, rfl, _⟩ := h; rfl) | (obtain ⟨_, _, _, _, _, _, _, rfl, _⟩ := h; rfl) | (obtain ⟨_, _, _, _, _, _, _, _, rfl, _⟩ := h; rfl)
  · have hr64 := hr.units
    have hc_Namer := T.c_Namer
    have hi_Namer := T.i_Namer
    have hn_Namer_rule := T.na_Namer_rule
    have hn_Namer_width := T.na_Namer_width
    refine ⟨_, (pss_one (ps_ret (pe_callB (cr_allK (K := K) rfl rfl) (by rfl) T.n_all (by decide +kernel) (pa_cons (pe_lc (own := [("_law_k", 1)]) rfl sc_law.nd (pi_range1 rfl T.n_range (pa_cons (pe_callB (call_maxU rfl) (by rfl) T.n_max (by decide +kernel) (pa_cons pe_int (pa_cons (pe_callB (call_minU rfl) (by rfl) T.n_min (by decide +kernel) (pa_cons (pe_callB (show CallR _ _ (rLenUS K) from call_lenK (K := K) rfl) (by rfl) T.n_len (by decide +kernel) (pa_cons (pv 0) pa_nil)) (pa_cons pe_int pa_nil))) pa_nil))) pa_nil)) (blkOk_by (N := ["_law_script", "_law_k"]) (sc := L2.defScope s_law) (by decide +kernel)) (fun _ _ _ _ _ => (pg_name (i := 1) sc_law.nd rfl (by first | exact Or.inl rfl | exact Or.inr rfl))) (fun _ _ _ _ _ => pts_nil) (fun _ _ _ _ _ => (pe_callG (okD__law_right T B) (hr.mono (by decide)) hgd rfl T.m__law_right T.F__law_right.kp T.b__law_right (pa_cons (pe_call (okD__law_source T) (hr.mono (by decide)) rfl T.m__law_source T.F__law_source.kp T.b__law_source .nil pass0 (pa_cons (pv 0) (pa_cons (pv 1) pa_nil))) pa_nil)))) pa_nil)))), ?_⟩
    refine ⟨_, inferInstance, fun ds M R h => ?_⟩
    obtain ⟨d, ns, rfl, hd, hl, rfl, q⟩ := h
    have hM := tms_M0 T
    rw [st_law]
    walk_at "dw"
    refine ⟨d, ns, rfl, hd, ?_⟩
    walk_at "dw"
    refine ⟨by split <;> split <;> omega, by split <;> split <;> omega, trivial, by rw [rgD_len]; split <;> split <;> omega, ?_⟩
    refine gather_all (f := fun _ => .bl true) ?_ trivial ?_
    · intro x hx Ky hy
      obtain ⟨i, hi, rfl⟩ := List.mem_map.mp hx
      have hi2 := List.mem_range.mp hi
      walk_at "dw"
      refine ⟨d, ns, i, by rw [Int.zero_add], hd, hl, by revert hi2; split <;> split <;> omega, fun p => ?_⟩
      walk_at "dw"
      exact ⟨p, rfl, hM, hy⟩
    · walk_at "dw"
      have e : ∀ l : List D, l.map (fun _ => D.bl true) = (List.replicate l.length true).map D.bl := fun l => by rw [List.map_const', List.map_replicate]
      rw [e]
      refine x_all ?_
      rw [show ∀ n, (List.replicate n true).all id = true from fun n => by simp]
      exact ⟨_, mle_refl, q⟩
end
end G
namespace G
open PySem PySem.Spec PyProof.Rows L2 U V
theorem law_end {P : Program} {w : World} {K : PySem.W.Frag} {h : Heap} {mg : Str → Option Value} {fa fl : Addr} (X : K.In h) (G0 : h.Ns mainGlobals mg) (hmg : mg "law" = some (.ref fa)) (n1 : K.lookup sysModules = none)  (e : ∃ T : Tx K mg, T.f_law = fl ∧ h.get? T.PP__law_right = some { cls := .none, data := .fields #[] }) :
    ∃ (fd : FuncData) (cs : List (Addr × Addr)), K.In h ∧ (∀ p ∈ cs, h.get? p.2 = some { cls := .none, data := .fields #[] }) ∧ (∀ p ∈ cs, K.lookup p.2 = none) ∧ (∀ p ∈ cs, PySem.W.CodeHd h p.1 p.2) ∧ K.lookup sysModules = none ∧ (∀ (t : Shared) (u : Value), BindsTo t fd ⟨[u], []⟩ [("_law_script", u)]) ∧
      ∀ base : Heap, K.In base → base.Ns mainGlobals mg → (∀ p ∈ cs, LamX.TabB base mg p.1 p.2) → FnG P w K mg base lv_law fa fd ["_law_script"] (spLawT K cs) := by
  obtain ⟨T, _, h0⟩ := e
  have q := hmg.symm.trans T.m_law
  cases q
  have all : ∀ {φ : Addr × Addr → Prop}, φ (T.cc__law_right, T.PP__law_right) → ∀ p ∈ Cs T, φ p := fun {φ} a0 p hp => by
    simp only [Cs, List.mem_cons, List.not_mem_nil, or_false] at hp
    rcases hp with rfl
    · exact a0
  refine ⟨T.d_law, Cs T, X, all h0, all T.np__law_right, all (PySem.W.codeHd_of_K X T.hd__law_right), n1, ?_, fun base _ _ hB => fnG_weak (okD_law T (tbs_of T hB)) (law_liftT (tms_hT T))⟩
  obtain ⟨oc, od, kV, doc, pm, an, cdv, ct, osl, efd, lk, hcd⟩ := T.F_law.ex
  intro t u
  rw [efd]
  exact .of_eq rfl
end G
open PySem PySem.W PyProof.Rows
set_option maxRecDepth 100000 in
set_option maxHeartbeats 0 in
theorem PySem.Challenge.cw_shownshort_k47_errors_of_names_in_order_holds : PySem.Challenge.rw_shownshort_k47_errors_of_names_in_order.Holds := by
  w_on; o_law; k_head; (case hw => w_witness2)
  k_fill
  refine V.walkGT (l := PySem.Challenge.rw_shownshort_k47_errors_of_names_in_order) (k := G.lv_law) (x := "_law_script") rfl rfl ⟨rfl, by decide, by decide⟩ (by decide +kernel) (fun w h Y => PySem.W.km_in_of Y) ?F
  case F =>
    intro w mg fa h Y KX G0 hmg
    refine' G.law_end KX G0 hmg ?x_me_sy (G.all_mk KX G0 ?x_n_ArithmeticError ?x_n_LookupError ?x_n_ValueError ?x_n_abs ?x_n_all ?x_n_bool ?x_n_divmod ?x_n_enumerate ?x_n_int ?x_n_isinstance ?x_n_len ?x_n_list ?x_n_max ?x_n_min ?x_n_range ?x_n_repr ?x_n_set ?x_n_sorted ?x_n_str ?x_n_tuple ?x_k_MOST_SIGNS ?x_k_MOST_TEXT ?x_k_MOST_LISTED ?x_k_SIGNS ?x_m_RULES ?x_q_RULES ?x_k_LEAST_WIDTH ?x_k_FIRST_NUMBER ?x_C_InputError ?x_C_StateError ?x_C_SizeError ?x_C_InvalidNumber ?x_C_InvalidMark ?x_C_InvalidText ?x_C_InvalidLength ?x_C_InvalidRule ?x_C_InvalidWidth ?x_C_InvalidPlace ?x_C_InvalidLine ?x_C_NotANamer ?x_C_NotAShelf ?x_C_InvalidRow ?x_C_InvalidViews ?x_C_InvalidTexts ?x_C_InvalidDeeds ?x_C_NothingToUndo ?x_C_Busy ?x_C_UnknownName ?x_C_TooMany ?x_L_InvalidRule ?x_me_R_InvalidRule ?x_xs_InvalidRule ?x_xe_InvalidRule ?x_xt_InvalidRule ?x_xk_InvalidRule ?x_na_InvalidRule_value ?x_a_InvalidRule___init__ ?x_j_InvalidRule___init__ ?x_i_InvalidRule___init__ ?x_l_InvalidRule___init__ ?x_c_InvalidRule___init__ ?x_k_InvalidRule___init__ ?x_L_InvalidWidth ?x_me_R_InvalidWidth ?x_xs_InvalidWidth ?x_xe_InvalidWidth ?x_xt_InvalidWidth ?x_xk_InvalidWidth ?x_na_InvalidWidth_value ?x_a_InvalidWidth___init__ ?x_j_InvalidWidth___init__ ?x_i_InvalidWidth___init__ ?x_l_InvalidWidth___init__ ?x_c_InvalidWidth___init__ ?x_k_InvalidWidth___init__ ?x_L_InvalidPlace ?x_me_R_InvalidPlace ?x_xs_InvalidPlace ?x_xe_InvalidPlace ?x_xt_InvalidPlace ?x_xk_InvalidPlace ?x_na_InvalidPlace_value ?x_a_InvalidPlace___init__ ?x_j_InvalidPlace___init__ ?x_i_InvalidPlace___init__ ?x_l_InvalidPlace___init__ ?x_c_InvalidPlace___init__ ?x_k_InvalidPlace___init__ ?x_L_NotANamer ?x_me_R_NotANamer ?x_xs_NotANamer ?x_xe_NotANamer ?x_xt_NotANamer ?x_xk_NotANamer ?x_na_NotANamer_value ?x_a_NotANamer___init__ ?x_j_NotANamer___init__ ?x_i_NotANamer___init__ ?x_l_NotANamer___init__ ?x_c_NotANamer___init__ ?x_k_NotANamer___init__ ?x_L_InvalidTexts ?x_me_R_InvalidTexts ?x_xs_InvalidTexts ?x_xe_InvalidTexts ?x_xt_InvalidTexts ?x_xk_InvalidTexts ?x_na_InvalidTexts_index ?x_a_InvalidTexts___init__ ?x_j_InvalidTexts___init__ ?x_i_InvalidTexts___init__ ?x_l_InvalidTexts___init__ ?x_c_InvalidTexts___init__ ?x_k_InvalidTexts___init__ ?x_ga_InvalidRule ?x_gg_InvalidRule ?x_xd_InvalidRule ?x_xa_InvalidRule ?x_xn_InvalidRule ?x_xq_InvalidRule ?x_xm_InvalidRule ?x_me_kr_InvalidRule_0 ?x_me_kr_InvalidRule_1 ?x_me_kr_InvalidRule_2 ?x_me_kr_InvalidRule_3 ?x_me_kr_InvalidRule_4 ?x_me_kr_InvalidRule_5 ?x_me_kr_InvalidRule_6 ?x_me_kr_InvalidRule_7 ?x_me_kr_InvalidRule_8 ?x_me_kr_InvalidRule_9 ?x_me_kr_InvalidRule_10 ?x_me_kr_InvalidRule_11 ?x_me_kr_InvalidRule_12 ?x_me_kr_InvalidRule_13 ?x_me_kr_InvalidRule_14 ?x_me_kr_InvalidRule_15 ?x_me_kr_InvalidRule_16 ?x_me_kr_InvalidRule_17 ?x_me_kr_InvalidRule_18 ?x_me_kr_InvalidRule_19 ?x_me_kr_InvalidRule_20 ?x_me_kr_InvalidRule_21 ?x_me_kr_InvalidRule_22 ?x_me_kr_InvalidRule_23 ?x_ga_InvalidWidth ?x_gg_InvalidWidth ?x_xd_InvalidWidth ?x_xa_InvalidWidth ?x_xn_InvalidWidth ?x_xq_InvalidWidth ?x_xm_InvalidWidth ?x_me_kr_InvalidWidth_0 ?x_me_kr_InvalidWidth_1 ?x_me_kr_InvalidWidth_2 ?x_me_kr_InvalidWidth_3 ?x_me_kr_InvalidWidth_4 ?x_me_kr_InvalidWidth_5 ?x_me_kr_InvalidWidth_6 ?x_me_kr_InvalidWidth_7 ?x_me_kr_InvalidWidth_8 ?x_me_kr_InvalidWidth_9 ?x_me_kr_InvalidWidth_10 ?x_me_kr_InvalidWidth_11 ?x_me_kr_InvalidWidth_12 ?x_me_kr_InvalidWidth_13 ?x_me_kr_InvalidWidth_14 ?x_me_kr_InvalidWidth_15 ?x_me_kr_InvalidWidth_16 ?x_me_kr_InvalidWidth_17 ?x_me_kr_InvalidWidth_18 ?x_me_kr_InvalidWidth_19 ?x_me_kr_InvalidWidth_20 ?x_me_kr_InvalidWidth_21 ?x_me_kr_InvalidWidth_22 ?x_me_kr_InvalidWidth_23 ?x_ga_NotANamer ?x_gg_NotANamer ?x_xd_NotANamer ?x_xa_NotANamer ?x_xn_NotANamer ?x_xq_NotANamer ?x_xm_NotANamer ?x_me_kr_NotANamer_0 ?x_me_kr_NotANamer_1 ?x_me_kr_NotANamer_2 ?x_me_kr_NotANamer_3 ?x_me_kr_NotANamer_4 ?x_me_kr_NotANamer_5 ?x_me_kr_NotANamer_6 ?x_me_kr_NotANamer_7 ?x_me_kr_NotANamer_8 ?x_me_kr_NotANamer_9 ?x_me_kr_NotANamer_10 ?x_me_kr_NotANamer_11 ?x_me_kr_NotANamer_12 ?x_me_kr_NotANamer_13 ?x_me_kr_NotANamer_14 ?x_me_kr_NotANamer_15 ?x_me_kr_NotANamer_16 ?x_me_kr_NotANamer_17 ?x_me_kr_NotANamer_18 ?x_me_kr_NotANamer_19 ?x_me_kr_NotANamer_20 ?x_me_kr_NotANamer_21 ?x_me_kr_NotANamer_22 ?x_me_kr_NotANamer_23 ?x_ga_InvalidTexts ?x_gg_InvalidTexts ?x_xd_InvalidTexts ?x_xa_InvalidTexts ?x_xn_InvalidTexts ?x_xq_InvalidTexts ?x_xm_InvalidTexts ?x_me_kr_InvalidTexts_0 ?x_me_kr_InvalidTexts_1 ?x_me_kr_InvalidTexts_2 ?x_me_kr_InvalidTexts_3 ?x_me_kr_InvalidTexts_4 ?x_me_kr_InvalidTexts_5 ?x_me_kr_InvalidTexts_6 ?x_me_kr_InvalidTexts_7 ?x_me_kr_InvalidTexts_8 ?x_me_kr_InvalidTexts_9 ?x_me_kr_InvalidTexts_10 ?x_me_kr_InvalidTexts_11 ?x_me_kr_InvalidTexts_12 ?x_me_kr_InvalidTexts_13 ?x_me_kr_InvalidTexts_14 ?x_me_kr_InvalidTexts_15 ?x_me_kr_InvalidTexts_16 ?x_me_kr_InvalidTexts_17 ?x_me_kr_InvalidTexts_18 ?x_me_kr_InvalidTexts_19 ?x_me_kr_InvalidTexts_20 ?x_me_kr_InvalidTexts_21 ?x_me_kr_InvalidTexts_22 ?x_me_kr_InvalidTexts_23 ?x_ga_InvalidPlace ?x_gg_InvalidPlace ?x_xd_InvalidPlace ?x_xa_InvalidPlace ?x_xn_InvalidPlace ?x_xq_InvalidPlace ?x_xm_InvalidPlace ?x_me_kr_InvalidPlace_0 ?x_me_kr_InvalidPlace_1 ?x_me_kr_InvalidPlace_2 ?x_me_kr_InvalidPlace_3 ?x_me_kr_InvalidPlace_4 ?x_me_kr_InvalidPlace_5 ?x_me_kr_InvalidPlace_6 ?x_me_kr_InvalidPlace_7 ?x_me_kr_InvalidPlace_8 ?x_me_kr_InvalidPlace_9 ?x_me_kr_InvalidPlace_10 ?x_me_kr_InvalidPlace_11 ?x_me_kr_InvalidPlace_12 ?x_me_kr_InvalidPlace_13 ?x_me_kr_InvalidPlace_14 ?x_me_kr_InvalidPlace_15 ?x_me_kr_InvalidPlace_16 ?x_me_kr_InvalidPlace_17 ?x_me_kr_InvalidPlace_18 ?x_me_kr_InvalidPlace_19 ?x_me_kr_InvalidPlace_20 ?x_me_kr_InvalidPlace_21 ?x_me_kr_InvalidPlace_22 ?x_me_kr_InvalidPlace_23 ?x_me_eh_InputError_InputError ?x_me_eh_StateError_InputError ?x_me_eh_SizeError_InputError ?x_me_eh_InvalidNumber_InputError ?x_me_eh_InvalidMark_InputError ?x_me_eh_InvalidText_InputError ?x_me_eh_InvalidLength_InputError ?x_me_eh_InvalidRule_InputError ?x_me_eh_InvalidWidth_InputError ?x_me_eh_InvalidPlace_InputError ?x_me_eh_InvalidLine_InputError ?x_me_eh_NotANamer_InputError ?x_me_eh_NotAShelf_InputError ?x_me_eh_InvalidRow_InputError ?x_me_eh_InvalidViews_InputError ?x_me_eh_InvalidTexts_InputError ?x_me_eh_InvalidDeeds_InputError ?x_me_eh_NothingToUndo_InputError ?x_me_eh_Busy_InputError ?x_me_eh_UnknownName_InputError ?x_me_eh_TooMany_InputError ?x_me_eh_InputError_SizeError ?x_me_eh_StateError_SizeError ?x_me_eh_SizeError_SizeError ?x_me_eh_InvalidNumber_SizeError ?x_me_eh_InvalidMark_SizeError ?x_me_eh_InvalidText_SizeError ?x_me_eh_InvalidLength_SizeError ?x_me_eh_InvalidRule_SizeError ?x_me_eh_InvalidWidth_SizeError ?x_me_eh_InvalidPlace_SizeError ?x_me_eh_InvalidLine_SizeError ?x_me_eh_NotANamer_SizeError ?x_me_eh_NotAShelf_SizeError ?x_me_eh_InvalidRow_SizeError ?x_me_eh_InvalidViews_SizeError ?x_me_eh_InvalidTexts_SizeError ?x_me_eh_InvalidDeeds_SizeError ?x_me_eh_NothingToUndo_SizeError ?x_me_eh_Busy_SizeError ?x_me_eh_UnknownName_SizeError ?x_me_eh_TooMany_SizeError ?x_me_eh_InputError_StateError ?x_me_eh_StateError_StateError ?x_me_eh_SizeError_StateError ?x_me_eh_InvalidNumber_StateError ?x_me_eh_InvalidMark_StateError ?x_me_eh_InvalidText_StateError ?x_me_eh_InvalidLength_StateError ?x_me_eh_InvalidRule_StateError ?x_me_eh_InvalidWidth_StateError ?x_me_eh_InvalidPlace_StateError ?x_me_eh_InvalidLine_StateError ?x_me_eh_NotANamer_StateError ?x_me_eh_NotAShelf_StateError ?x_me_eh_InvalidRow_StateError ?x_me_eh_InvalidViews_StateError ?x_me_eh_InvalidTexts_StateError ?x_me_eh_InvalidDeeds_StateError ?x_me_eh_NothingToUndo_StateError ?x_me_eh_Busy_StateError ?x_me_eh_UnknownName_StateError ?x_me_eh_TooMany_StateError ?x_C_Namer ?x_pg_Namer ?x_hd_Namer ?x_po_Namer ?x_sa_Namer ?x_mk_Namer ?x_kc_Namer ?x_ha_Namer ?x_hn_Namer ?x_ht_Namer ?x_hm_Namer ?x_me_Namer ?x_na_Namer_rule ?x_na_Namer_width ?x_ne_Namer ?x_non_Namer ?x_nos_Namer ?x_not_Namer ?x_noi_Namer ?x_nol_Namer ?x_me_kn_Namer ?x_me_ks_Namer ?x_me_ktt_Namer ?x_me_kt_Namer_NoneType ?x_me_kt_Namer_bool ?x_me_kt_Namer_int ?x_me_kt_Namer_str ?x_me_kt_Namer_list ?x_me_kt_Namer_tuple ?x_me_kt_Namer_dict ?x_me_kx_Namer_int ?x_me_kx_Namer_bool ?x_me_kx_Namer_str ?x_me_kx_Namer_list ?x_me_kx_Namer_tuple ?x_me_kx_Namer_dict ?x_a_Namer___init__ ?x_i_Namer___init__ ?x_l_Namer___init__ ?x_c_Namer___init__ ?x_k_Namer___init__ ?x_a_Namer_base_of ?x_i_Namer_base_of ?x_l_Namer_base_of ?x_c_Namer_base_of ?x_k_Namer_base_of ?x_a_Namer_numbered ?x_i_Namer_numbered ?x_l_Namer_numbered ?x_c_Namer_numbered ?x_k_Namer_numbered ?x_a_Namer_name_for ?x_i_Namer_name_for ?x_l_Namer_name_for ?x_c_Namer_name_for ?x_k_Namer_name_for ?x_a_Namer___eq__ ?x_i_Namer___eq__ ?x_l_Namer___eq__ ?x_c_Namer___eq__ ?x_k_Namer___eq__ ?x_a_Namer___repr__ ?x_i_Namer___repr__ ?x_l_Namer___repr__ ?x_c_Namer___repr__ ?x_k_Namer___repr__ ?x_a_is_integer ?x_i_is_integer ?x_l_is_integer ?x_c_is_integer ?x_k_is_integer ?x_a_is_text ?x_i_is_text ?x_l_is_text ?x_c_is_text ?x_k_is_text ?x_a_check_namer ?x_i_check_namer ?x_l_check_namer ?x_c_check_namer ?x_k_check_namer ?x_a_check_texts ?x_i_check_texts ?x_l_check_texts ?x_c_check_texts ?x_k_check_texts ?x_a_names_of ?x_i_names_of ?x_l_names_of ?x_c_names_of ?x_k_names_of ?x_a_orders_of ?x_i_orders_of ?x_l_orders_of ?x_c_orders_of ?x_k_orders_of ?x_a_names ?x_i_names ?x_l_names ?x_c_names ?x_k_names ?x_a_meeting ?x_i_meeting ?x_l_meeting ?x_c_meeting ?x_k_meeting ?x_a_possible_names ?x_i_possible_names ?x_l_possible_names ?x_c_possible_names ?x_k_possible_names ?x_a__law_source ?x_i__law_source ?x_l__law_source ?x_c__law_source ?x_k__law_source ?x_a__law_draw ?x_i__law_draw ?x_l__law_draw ?x_c__law_draw ?x_k__law_draw ?x_a__law_one ?x_i__law_one ?x_l__law_one ?x_c__law_one ?x_k__law_one ?x_a__law_stem ?x_i__law_stem ?x_l__law_stem ?x_c__law_stem ?x_k__law_stem ?x_a__law_refusal ?x_i__law_refusal ?x_l__law_refusal ?x_c__law_refusal ?x_k__law_refusal ?x_a__law_tried ?x_i__law_tried ?x_l__law_tried ?x_c__law_tried ?x_k__law_tried ?x_a__law_is ?x_i__law_is ?x_l__law_is ?x_c__law_is ?x_k__law_is ?x_a__law_is_text ?x_i__law_is_text ?x_l__law_is_text ?x_c__law_is_text ?x_k__law_is_text ?x_a__law_odd ?x_i__law_odd ?x_l__law_odd ?x_c__law_odd ?x_k__law_odd ?x_a__law_line ?x_i__law_line ?x_l__law_line ?x_c__law_line ?x_k__law_line ?x_a__law_due ?x_i__law_due ?x_l__law_due ?x_c__law_due ?x_k__law_due ?x_a__law_fits ?x_i__law_fits ?x_l__law_fits ?x_c__law_fits ?x_k__law_fits ?x_a__law_right ?x_i__law_right ?x_l__law_right ?x_c__law_right ?x_k__law_right ?x_a_law ?x_i_law ?x_l_law ?x_c_law ?x_k_law ?x_me_tb__law_right ?x_me_cd__law_right ?x_me_hd__law_right ?x_me_np__law_right ?x_tab__law_right ?x_me_ps__law_right)
    (case x_me_sy => rfl)
    (case x_n_ArithmeticError => k_is)
    (case x_n_LookupError => k_is)
    (case x_n_ValueError => k_is)
    (case x_n_abs => k_is)
    (case x_n_all => k_is)
    (case x_n_bool => k_is)
    (case x_n_divmod => k_is)
    (case x_n_enumerate => k_is)
    (case x_n_int => k_is)
    (case x_n_isinstance => k_is)
    (case x_n_len => k_is)
    (case x_n_list => k_is)
    (case x_n_max => k_is)
    (case x_n_min => k_is)
    (case x_n_range => k_is)
    (case x_n_repr => k_is)
    (case x_n_set => k_is)
    (case x_n_sorted => k_is)
    (case x_n_str => k_is)
    (case x_n_tuple => k_is)
    (case x_k_MOST_SIGNS => k_is)
    (case x_k_MOST_TEXT => k_is)
    (case x_k_MOST_LISTED => k_is)
    (case x_k_SIGNS => k_is)
    (case x_m_RULES => k_is)
    (case x_q_RULES => k_is)
    (case x_k_LEAST_WIDTH => k_is)
    (case x_k_FIRST_NUMBER => k_is)
    (case x_C_InputError => k_is)
    (case x_C_StateError => k_is)
    (case x_C_SizeError => k_is)
    (case x_C_InvalidNumber => k_is)
    (case x_C_InvalidMark => k_is)
    (case x_C_InvalidText => k_is)
    (case x_C_InvalidLength => k_is)
    (case x_C_InvalidRule => k_is)
    (case x_C_InvalidWidth => k_is)
    (case x_C_InvalidPlace => k_is)
    (case x_C_InvalidLine => k_is)
    (case x_C_NotANamer => k_is)
    (case x_C_NotAShelf => k_is)
    (case x_C_InvalidRow => k_is)
    (case x_C_InvalidViews => k_is)
    (case x_C_InvalidTexts => k_is)
    (case x_C_InvalidDeeds => k_is)
    (case x_C_NothingToUndo => k_is)
    (case x_C_Busy => k_is)
    (case x_C_UnknownName => k_is)
    (case x_C_TooMany => k_is)
    (case x_L_InvalidRule => k_is)
    (case x_me_R_InvalidRule => first | rfl | k_exc | k_is)
    (case x_xs_InvalidRule => k_is)
    (case x_xe_InvalidRule => k_is)
    (case x_xt_InvalidRule => k_is)
    (case x_xk_InvalidRule => k_is)
    (case x_na_InvalidRule_value => k_is)
    (case x_a_InvalidRule___init__ => k_is)
    (case x_j_InvalidRule___init__ => k_is)
    (case x_i_InvalidRule___init__ => k_is)
    (case x_l_InvalidRule___init__ => k_is)
    (case x_c_InvalidRule___init__ => k_is)
    (case x_k_InvalidRule___init__ => k_is)
    (case x_L_InvalidWidth => k_is)
    (case x_me_R_InvalidWidth => first | rfl | k_exc | k_is)
    (case x_xs_InvalidWidth => k_is)
    (case x_xe_InvalidWidth => k_is)
    (case x_xt_InvalidWidth => k_is)
    (case x_xk_InvalidWidth => k_is)
    (case x_na_InvalidWidth_value => k_is)
    (case x_a_InvalidWidth___init__ => k_is)
    (case x_j_InvalidWidth___init__ => k_is)
    (case x_i_InvalidWidth___init__ => k_is)
    (case x_l_InvalidWidth___init__ => k_is)
    (case x_c_InvalidWidth___init__ => k_is)
    (case x_k_InvalidWidth___init__ => k_is)
    (case x_L_InvalidPlace => k_is)
    (case x_me_R_InvalidPlace => first | rfl | k_exc | k_is)
    (case x_xs_InvalidPlace => k_is)
    (case x_xe_InvalidPlace => k_is)
    (case x_xt_InvalidPlace => k_is)
    (case x_xk_InvalidPlace => k_is)
    (case x_na_InvalidPlace_value => k_is)
    (case x_a_InvalidPlace___init__ => k_is)
    (case x_j_InvalidPlace___init__ => k_is)
    (case x_i_InvalidPlace___init__ => k_is)
    (case x_l_InvalidPlace___init__ => k_is)
    (case x_c_InvalidPlace___init__ => k_is)
    (case x_k_InvalidPlace___init__ => k_is)
    (case x_L_NotANamer => k_is)
    (case x_me_R_NotANamer => first | rfl | k_exc | k_is)
    (case x_xs_NotANamer => k_is)
    (case x_xe_NotANamer => k_is)
    (case x_xt_NotANamer => k_is)
    (case x_xk_NotANamer => k_is)
    (case x_na_NotANamer_value => k_is)
    (case x_a_NotANamer___init__ => k_is)
    (case x_j_NotANamer___init__ => k_is)
    (case x_i_NotANamer___init__ => k_is)
    (case x_l_NotANamer___init__ => k_is)
    (case x_c_NotANamer___init__ => k_is)
    (case x_k_NotANamer___init__ => k_is)
    (case x_L_InvalidTexts => k_is)
    (case x_me_R_InvalidTexts => first | rfl | k_exc | k_is)
    (case x_xs_InvalidTexts => k_is)
    (case x_xe_InvalidTexts => k_is)
    (case x_xt_InvalidTexts => k_is)
    (case x_xk_InvalidTexts => k_is)
    (case x_na_InvalidTexts_index => k_is)
    (case x_a_InvalidTexts___init__ => k_is)
    (case x_j_InvalidTexts___init__ => k_is)
    (case x_i_InvalidTexts___init__ => k_is)
    (case x_l_InvalidTexts___init__ => k_is)
    (case x_c_InvalidTexts___init__ => k_is)
    (case x_k_InvalidTexts___init__ => k_is)
    (case x_ga_InvalidRule => k_is)
    (case x_gg_InvalidRule => k_is)
    (case x_xd_InvalidRule => k_is)
    (case x_xa_InvalidRule => k_is)
    (case x_xn_InvalidRule => k_is)
    (case x_xq_InvalidRule => k_is)
    (case x_xm_InvalidRule => k_is)
    (case x_me_kr_InvalidRule_0 => first | rfl | k_exc | k_is)
    (case x_me_kr_InvalidRule_1 => first | rfl | k_exc | k_is)
    (case x_me_kr_InvalidRule_2 => first | rfl | k_exc | k_is)
    (case x_me_kr_InvalidRule_3 => first | rfl | k_exc | k_is)
    (case x_me_kr_InvalidRule_4 => first | rfl | k_exc | k_is)
    (case x_me_kr_InvalidRule_5 => first | rfl | k_exc | k_is)
    (case x_me_kr_InvalidRule_6 => first | rfl | k_exc | k_is)
    (case x_me_kr_InvalidRule_7 => first | rfl | k_exc | k_is)
    (case x_me_kr_InvalidRule_8 => first | rfl | k_exc | k_is)
    (case x_me_kr_InvalidRule_9 => first | rfl | k_exc | k_is)
    (case x_me_kr_InvalidRule_10 => first | rfl | k_exc | k_is)
    (case x_me_kr_InvalidRule_11 => first | rfl | k_exc | k_is)
    (case x_me_kr_InvalidRule_12 => first | rfl | k_exc | k_is)
    (case x_me_kr_InvalidRule_13 => first | rfl | k_exc | k_is)
    (case x_me_kr_InvalidRule_14 => first | rfl | k_exc | k_is)
    (case x_me_kr_InvalidRule_15 => first | rfl | k_exc | k_is)
    (case x_me_kr_InvalidRule_16 => first | rfl | k_exc | k_is)
    (case x_me_kr_InvalidRule_17 => first | rfl | k_exc | k_is)
    (case x_me_kr_InvalidRule_18 => first | rfl | k_exc | k_is)
    (case x_me_kr_InvalidRule_19 => first | rfl | k_exc | k_is)
    (case x_me_kr_InvalidRule_20 => first | rfl | k_exc | k_is)
    (case x_me_kr_InvalidRule_21 => first | rfl | k_exc | k_is)
    (case x_me_kr_InvalidRule_22 => first | rfl | k_exc | k_is)
    (case x_me_kr_InvalidRule_23 => first | rfl | k_exc | k_is)
    (case x_ga_InvalidWidth => k_is)
    (case x_gg_InvalidWidth => k_is)
    (case x_xd_InvalidWidth => k_is)
    (case x_xa_InvalidWidth => k_is)
    (case x_xn_InvalidWidth => k_is)
    (case x_xq_InvalidWidth => k_is)
    (case x_xm_InvalidWidth => k_is)
    (case x_me_kr_InvalidWidth_0 => first | rfl | k_exc | k_is)
    (case x_me_kr_InvalidWidth_1 => first | rfl | k_exc | k_is)
    (case x_me_kr_InvalidWidth_2 => first | rfl | k_exc | k_is)
    (case x_me_kr_InvalidWidth_3 => first | rfl | k_exc | k_is)
    (case x_me_kr_InvalidWidth_4 => first | rfl | k_exc | k_is)
    (case x_me_kr_InvalidWidth_5 => first | rfl | k_exc | k_is)
    (case x_me_kr_InvalidWidth_6 => first | rfl | k_exc | k_is)
    (case x_me_kr_InvalidWidth_7 => first | rfl | k_exc | k_is)
    (case x_me_kr_InvalidWidth_8 => first | rfl | k_exc | k_is)
    (case x_me_kr_InvalidWidth_9 => first | rfl | k_exc | k_is)
    (case x_me_kr_InvalidWidth_10 => first | rfl | k_exc | k_is)
    (case x_me_kr_InvalidWidth_11 => first | rfl | k_exc | k_is)
    (case x_me_kr_InvalidWidth_12 => first | rfl | k_exc | k_is)
    (case x_me_kr_InvalidWidth_13 => first | rfl | k_exc | k_is)
    (case x_me_kr_InvalidWidth_14 => first | rfl | k_exc | k_is)
    (case x_me_kr_InvalidWidth_15 => first | rfl | k_exc | k_is)
    (case x_me_kr_InvalidWidth_16 => first | rfl | k_exc | k_is)
    (case x_me_kr_InvalidWidth_17 => first | rfl | k_exc | k_is)
    (case x_me_kr_InvalidWidth_18 => first | rfl | k_exc | k_is)
    (case x_me_kr_InvalidWidth_19 => first | rfl | k_exc | k_is)
    (case x_me_kr_InvalidWidth_20 => first | rfl | k_exc | k_is)
    (case x_me_kr_InvalidWidth_21 => first | rfl | k_exc | k_is)
    (case x_me_kr_InvalidWidth_22 => first | rfl | k_exc | k_is)
    (case x_me_kr_InvalidWidth_23 => first | rfl | k_exc | k_is)
    (case x_ga_NotANamer => k_is)
    (case x_gg_NotANamer => k_is)
    (case x_xd_NotANamer => k_is)
    (case x_xa_NotANamer => k_is)
    (case x_xn_NotANamer => k_is)
    (case x_xq_NotANamer => k_is)
    (case x_xm_NotANamer => k_is)
    (case x_me_kr_NotANamer_0 => first | rfl | k_exc | k_is)
    (case x_me_kr_NotANamer_1 => first | rfl | k_exc | k_is)
    (case x_me_kr_NotANamer_2 => first | rfl | k_exc | k_is)
    (case x_me_kr_NotANamer_3 => first | rfl | k_exc | k_is)
    (case x_me_kr_NotANamer_4 => first | rfl | k_exc | k_is)
    (case x_me_kr_NotANamer_5 => first | rfl | k_exc | k_is)
    (case x_me_kr_NotANamer_6 => first | rfl | k_exc | k_is)
    (case x_me_kr_NotANamer_7 => first | rfl | k_exc | k_is)
    (case x_me_kr_NotANamer_8 => first | rfl | k_exc | k_is)
    (case x_me_kr_NotANamer_9 => first | rfl | k_exc | k_is)
    (case x_me_kr_NotANamer_10 => first | rfl | k_exc | k_is)
    (case x_me_kr_NotANamer_11 => first | rfl | k_exc | k_is)
    (case x_me_kr_NotANamer_12 => first | rfl | k_exc | k_is)
    (case x_me_kr_NotANamer_13 => first | rfl | k_exc | k_is)
    (case x_me_kr_NotANamer_14 => first | rfl | k_exc | k_is)
    (case x_me_kr_NotANamer_15 => first | rfl | k_exc | k_is)
    (case x_me_kr_NotANamer_16 => first | rfl | k_exc | k_is)
    (case x_me_kr_NotANamer_17 => first | rfl | k_exc | k_is)
    (case x_me_kr_NotANamer_18 => first | rfl | k_exc | k_is)
    (case x_me_kr_NotANamer_19 => first | rfl | k_exc | k_is)
    (case x_me_kr_NotANamer_20 => first | rfl | k_exc | k_is)
    (case x_me_kr_NotANamer_21 => first | rfl | k_exc | k_is)
    (case x_me_kr_NotANamer_22 => first | rfl | k_exc | k_is)
    (case x_me_kr_NotANamer_23 => first | rfl | k_exc | k_is)
    (case x_ga_InvalidTexts => k_is)
    (case x_gg_InvalidTexts => k_is)
    (case x_xd_InvalidTexts => k_is)
    (case x_xa_InvalidTexts => k_is)
    (case x_xn_InvalidTexts => k_is)
    (case x_xq_InvalidTexts => k_is)
    (case x_xm_InvalidTexts => k_is)
    (case x_me_kr_InvalidTexts_0 => first | rfl | k_exc | k_is)
    (case x_me_kr_InvalidTexts_1 => first | rfl | k_exc | k_is)
    (case x_me_kr_InvalidTexts_2 => first | rfl | k_exc | k_is)
    (case x_me_kr_InvalidTexts_3 => first | rfl | k_exc | k_is)
    (case x_me_kr_InvalidTexts_4 => first | rfl | k_exc | k_is)
    (case x_me_kr_InvalidTexts_5 => first | rfl | k_exc | k_is)
    (case x_me_kr_InvalidTexts_6 => first | rfl | k_exc | k_is)
    (case x_me_kr_InvalidTexts_7 => first | rfl | k_exc | k_is)
    (case x_me_kr_InvalidTexts_8 => first | rfl | k_exc | k_is)
    (case x_me_kr_InvalidTexts_9 => first | rfl | k_exc | k_is)
    (case x_me_kr_InvalidTexts_10 => first | rfl | k_exc | k_is)
    (case x_me_kr_InvalidTexts_11 => first | rfl | k_exc | k_is)
    (case x_me_kr_InvalidTexts_12 => first | rfl | k_exc | k_is)
    (case x_me_kr_InvalidTexts_13 => first | rfl | k_exc | k_is)
    (case x_me_kr_InvalidTexts_14 => first | rfl | k_exc | k_is)
    (case x_me_kr_InvalidTexts_15 => first | rfl | k_exc | k_is)
    (case x_me_kr_InvalidTexts_16 => first | rfl | k_exc | k_is)
    (case x_me_kr_InvalidTexts_17 => first | rfl | k_exc | k_is)
    (case x_me_kr_InvalidTexts_18 => first | rfl | k_exc | k_is)
    (case x_me_kr_InvalidTexts_19 => first | rfl | k_exc | k_is)
    (case x_me_kr_InvalidTexts_20 => first | rfl | k_exc | k_is)
    (case x_me_kr_InvalidTexts_21 => first | rfl | k_exc | k_is)
    (case x_me_kr_InvalidTexts_22 => first | rfl | k_exc | k_is)
    (case x_me_kr_InvalidTexts_23 => first | rfl | k_exc | k_is)
    (case x_ga_InvalidPlace => k_is)
    (case x_gg_InvalidPlace => k_is)
    (case x_xd_InvalidPlace => k_is)
    (case x_xa_InvalidPlace => k_is)
    (case x_xn_InvalidPlace => k_is)
    (case x_xq_InvalidPlace => k_is)
    (case x_xm_InvalidPlace => k_is)
    (case x_me_kr_InvalidPlace_0 => first | rfl | k_exc | k_is)
    (case x_me_kr_InvalidPlace_1 => first | rfl | k_exc | k_is)
    (case x_me_kr_InvalidPlace_2 => first | rfl | k_exc | k_is)
    (case x_me_kr_InvalidPlace_3 => first | rfl | k_exc | k_is)
    (case x_me_kr_InvalidPlace_4 => first | rfl | k_exc | k_is)
    (case x_me_kr_InvalidPlace_5 => first | rfl | k_exc | k_is)
    (case x_me_kr_InvalidPlace_6 => first | rfl | k_exc | k_is)
    (case x_me_kr_InvalidPlace_7 => first | rfl | k_exc | k_is)
    (case x_me_kr_InvalidPlace_8 => first | rfl | k_exc | k_is)
    (case x_me_kr_InvalidPlace_9 => first | rfl | k_exc | k_is)
    (case x_me_kr_InvalidPlace_10 => first | rfl | k_exc | k_is)
    (case x_me_kr_InvalidPlace_11 => first | rfl | k_exc | k_is)
    (case x_me_kr_InvalidPlace_12 => first | rfl | k_exc | k_is)
    (case x_me_kr_InvalidPlace_13 => first | rfl | k_exc | k_is)
    (case x_me_kr_InvalidPlace_14 => first | rfl | k_exc | k_is)
    (case x_me_kr_InvalidPlace_15 => first | rfl | k_exc | k_is)
    (case x_me_kr_InvalidPlace_16 => first | rfl | k_exc | k_is)
    (case x_me_kr_InvalidPlace_17 => first | rfl | k_exc | k_is)
    (case x_me_kr_InvalidPlace_18 => first | rfl | k_exc | k_is)
    (case x_me_kr_InvalidPlace_19 => first | rfl | k_exc | k_is)
    (case x_me_kr_InvalidPlace_20 => first | rfl | k_exc | k_is)
    (case x_me_kr_InvalidPlace_21 => first | rfl | k_exc | k_is)
    (case x_me_kr_InvalidPlace_22 => first | rfl | k_exc | k_is)
    (case x_me_kr_InvalidPlace_23 => first | rfl | k_exc | k_is)
    (case x_me_eh_InputError_InputError => first | rfl | k_exc | k_is)
    (case x_me_eh_StateError_InputError => first | rfl | k_exc | k_is)
    (case x_me_eh_SizeError_InputError => first | rfl | k_exc | k_is)
    (case x_me_eh_InvalidNumber_InputError => first | rfl | k_exc | k_is)
    (case x_me_eh_InvalidMark_InputError => first | rfl | k_exc | k_is)
    (case x_me_eh_InvalidText_InputError => first | rfl | k_exc | k_is)
    (case x_me_eh_InvalidLength_InputError => first | rfl | k_exc | k_is)
    (case x_me_eh_InvalidRule_InputError => first | rfl | k_exc | k_is)
    (case x_me_eh_InvalidWidth_InputError => first | rfl | k_exc | k_is)
    (case x_me_eh_InvalidPlace_InputError => first | rfl | k_exc | k_is)
    (case x_me_eh_InvalidLine_InputError => first | rfl | k_exc | k_is)
    (case x_me_eh_NotANamer_InputError => first | rfl | k_exc | k_is)
    (case x_me_eh_NotAShelf_InputError => first | rfl | k_exc | k_is)
    (case x_me_eh_InvalidRow_InputError => first | rfl | k_exc | k_is)
    (case x_me_eh_InvalidViews_InputError => first | rfl | k_exc | k_is)
    (case x_me_eh_InvalidTexts_InputError => first | rfl | k_exc | k_is)
    (case x_me_eh_InvalidDeeds_InputError => first | rfl | k_exc | k_is)
    (case x_me_eh_NothingToUndo_InputError => first | rfl | k_exc | k_is)
    (case x_me_eh_Busy_InputError => first | rfl | k_exc | k_is)
    (case x_me_eh_UnknownName_InputError => first | rfl | k_exc | k_is)
    (case x_me_eh_TooMany_InputError => first | rfl | k_exc | k_is)
    (case x_me_eh_InputError_SizeError => first | rfl | k_exc | k_is)
    (case x_me_eh_StateError_SizeError => first | rfl | k_exc | k_is)
    (case x_me_eh_SizeError_SizeError => first | rfl | k_exc | k_is)
    (case x_me_eh_InvalidNumber_SizeError => first | rfl | k_exc | k_is)
    (case x_me_eh_InvalidMark_SizeError => first | rfl | k_exc | k_is)
    (case x_me_eh_InvalidText_SizeError => first | rfl | k_exc | k_is)
    (case x_me_eh_InvalidLength_SizeError => first | rfl | k_exc | k_is)
    (case x_me_eh_InvalidRule_SizeError => first | rfl | k_exc | k_is)
    (case x_me_eh_InvalidWidth_SizeError => first | rfl | k_exc | k_is)
    (case x_me_eh_InvalidPlace_SizeError => first | rfl | k_exc | k_is)
    (case x_me_eh_InvalidLine_SizeError => first | rfl | k_exc | k_is)
    (case x_me_eh_NotANamer_SizeError => first | rfl | k_exc | k_is)
    (case x_me_eh_NotAShelf_SizeError => first | rfl | k_exc | k_is)
    (case x_me_eh_InvalidRow_SizeError => first | rfl | k_exc | k_is)
    (case x_me_eh_InvalidViews_SizeError => first | rfl | k_exc | k_is)
    (case x_me_eh_InvalidTexts_SizeError => first | rfl | k_exc | k_is)
    (case x_me_eh_InvalidDeeds_SizeError => first | rfl | k_exc | k_is)
    (case x_me_eh_NothingToUndo_SizeError => first | rfl | k_exc | k_is)
    (case x_me_eh_Busy_SizeError => first | rfl | k_exc | k_is)
    (case x_me_eh_UnknownName_SizeError => first | rfl | k_exc | k_is)
    (case x_me_eh_TooMany_SizeError => first | rfl | k_exc | k_is)
    (case x_me_eh_InputError_StateError => first | rfl | k_exc | k_is)
    (case x_me_eh_StateError_StateError => first | rfl | k_exc | k_is)
    (case x_me_eh_SizeError_StateError => first | rfl | k_exc | k_is)
    (case x_me_eh_InvalidNumber_StateError => first | rfl | k_exc | k_is)
    (case x_me_eh_InvalidMark_StateError => first | rfl | k_exc | k_is)
    (case x_me_eh_InvalidText_StateError => first | rfl | k_exc | k_is)
    (case x_me_eh_InvalidLength_StateError => first | rfl | k_exc | k_is)
    (case x_me_eh_InvalidRule_StateError => first | rfl | k_exc | k_is)
    (case x_me_eh_InvalidWidth_StateError => first | rfl | k_exc | k_is)
    (case x_me_eh_InvalidPlace_StateError => first | rfl | k_exc | k_is)
    (case x_me_eh_InvalidLine_StateError => first | rfl | k_exc | k_is)
    (case x_me_eh_NotANamer_StateError => first | rfl | k_exc | k_is)
    (case x_me_eh_NotAShelf_StateError => first | rfl | k_exc | k_is)
    (case x_me_eh_InvalidRow_StateError => first | rfl | k_exc | k_is)
    (case x_me_eh_InvalidViews_StateError => first | rfl | k_exc | k_is)
    (case x_me_eh_InvalidTexts_StateError => first | rfl | k_exc | k_is)
    (case x_me_eh_InvalidDeeds_StateError => first | rfl | k_exc | k_is)
    (case x_me_eh_NothingToUndo_StateError => first | rfl | k_exc | k_is)
    (case x_me_eh_Busy_StateError => first | rfl | k_exc | k_is)
    (case x_me_eh_UnknownName_StateError => first | rfl | k_exc | k_is)
    (case x_me_eh_TooMany_StateError => first | rfl | k_exc | k_is)
    (case x_C_Namer => k_is)
    (case x_pg_Namer => k_is)
    (case x_hd_Namer => k_is)
    (case x_po_Namer => k_is)
    (case x_sa_Namer => k_is)
    (case x_mk_Namer => k_is)
    (case x_kc_Namer => k_is)
    (case x_ha_Namer => k_is)
    (case x_hn_Namer => k_is)
    (case x_ht_Namer => k_is)
    (case x_hm_Namer => k_is)
    (case x_me_Namer => first | rfl | k_exc | k_is)
    (case x_na_Namer_rule => k_is)
    (case x_na_Namer_width => k_is)
    (case x_ne_Namer => k_is)
    (case x_non_Namer => k_is)
    (case x_nos_Namer => k_is)
    (case x_not_Namer => k_is)
    (case x_noi_Namer => k_is)
    (case x_nol_Namer => k_is)
    (case x_me_kn_Namer => first | rfl | k_exc | k_is)
    (case x_me_ks_Namer => first | rfl | k_exc | k_is)
    (case x_me_ktt_Namer => first | rfl | k_exc | k_is)
    (case x_me_kt_Namer_NoneType => first | rfl | k_exc | k_is)
    (case x_me_kt_Namer_bool => first | rfl | k_exc | k_is)
    (case x_me_kt_Namer_int => first | rfl | k_exc | k_is)
    (case x_me_kt_Namer_str => first | rfl | k_exc | k_is)
    (case x_me_kt_Namer_list => first | rfl | k_exc | k_is)
    (case x_me_kt_Namer_tuple => first | rfl | k_exc | k_is)
    (case x_me_kt_Namer_dict => first | rfl | k_exc | k_is)
    (case x_me_kx_Namer_int => first | rfl | k_exc | k_is)
    (case x_me_kx_Namer_bool => first | rfl | k_exc | k_is)
    (case x_me_kx_Namer_str => first | rfl | k_exc | k_is)
    (case x_me_kx_Namer_list => first | rfl | k_exc | k_is)
    (case x_me_kx_Namer_tuple => first | rfl | k_exc | k_is)
    (case x_me_kx_Namer_dict => first | rfl | k_exc | k_is)
    (case x_a_Namer___init__ => k_is)
    (case x_i_Namer___init__ => k_is)
    (case x_l_Namer___init__ => k_is)
    (case x_c_Namer___init__ => k_is)
    (case x_k_Namer___init__ => k_is)
    (case x_a_Namer_base_of => k_is)
    (case x_i_Namer_base_of => k_is)
    (case x_l_Namer_base_of => k_is)
    (case x_c_Namer_base_of => k_is)
    (case x_k_Namer_base_of => k_is)
    (case x_a_Namer_numbered => k_is)
    (case x_i_Namer_numbered => k_is)
    (case x_l_Namer_numbered => k_is)
    (case x_c_Namer_numbered => k_is)
    (case x_k_Namer_numbered => k_is)
    (case x_a_Namer_name_for => k_is)
    (case x_i_Namer_name_for => k_is)
    (case x_l_Namer_name_for => k_is)
    (case x_c_Namer_name_for => k_is)
    (case x_k_Namer_name_for => k_is)
    (case x_a_Namer___eq__ => k_is)
    (case x_i_Namer___eq__ => k_is)
    (case x_l_Namer___eq__ => k_is)
    (case x_c_Namer___eq__ => k_is)
    (case x_k_Namer___eq__ => k_is)
    (case x_a_Namer___repr__ => k_is)
    (case x_i_Namer___repr__ => k_is)
    (case x_l_Namer___repr__ => k_is)
    (case x_c_Namer___repr__ => k_is)
    (case x_k_Namer___repr__ => k_is)
    (case x_a_is_integer => k_is)
    (case x_i_is_integer => k_is)
    (case x_l_is_integer => k_is)
    (case x_c_is_integer => k_is)
    (case x_k_is_integer => k_is)
    (case x_a_is_text => k_is)
    (case x_i_is_text => k_is)
    (case x_l_is_text => k_is)
    (case x_c_is_text => k_is)
    (case x_k_is_text => k_is)
    (case x_a_check_namer => k_is)
    (case x_i_check_namer => k_is)
    (case x_l_check_namer => k_is)
    (case x_c_check_namer => k_is)
    (case x_k_check_namer => k_is)
    (case x_a_check_texts => k_is)
    (case x_i_check_texts => k_is)
    (case x_l_check_texts => k_is)
    (case x_c_check_texts => k_is)
    (case x_k_check_texts => k_is)
    (case x_a_names_of => k_is)
    (case x_i_names_of => k_is)
    (case x_l_names_of => k_is)
    (case x_c_names_of => k_is)
    (case x_k_names_of => k_is)
    (case x_a_orders_of => k_is)
    (case x_i_orders_of => k_is)
    (case x_l_orders_of => k_is)
    (case x_c_orders_of => k_is)
    (case x_k_orders_of => k_is)
    (case x_a_names => k_is)
    (case x_i_names => k_is)
    (case x_l_names => k_is)
    (case x_c_names => k_is)
    (case x_k_names => k_is)
    (case x_a_meeting => k_is)
    (case x_i_meeting => k_is)
    (case x_l_meeting => k_is)
    (case x_c_meeting => k_is)
    (case x_k_meeting => k_is)
    (case x_a_possible_names => k_is)
    (case x_i_possible_names => k_is)
    (case x_l_possible_names => k_is)
    (case x_c_possible_names => k_is)
    (case x_k_possible_names => k_is)
    (case x_a__law_source => k_is)
    (case x_i__law_source => k_is)
    (case x_l__law_source => k_is)
    (case x_c__law_source => k_is)
    (case x_k__law_source => k_is)
    (case x_a__law_draw => k_is)
    (case x_i__law_draw => k_is)
    (case x_l__law_draw => k_is)
    (case x_c__law_draw => k_is)
    (case x_k__law_draw => k_is)
    (case x_a__law_one => k_is)
    (case x_i__law_one => k_is)
    (case x_l__law_one => k_is)
    (case x_c__law_one => k_is)
    (case x_k__law_one => k_is)
    (case x_a__law_stem => k_is)
    (case x_i__law_stem => k_is)
    (case x_l__law_stem => k_is)
    (case x_c__law_stem => k_is)
    (case x_k__law_stem => k_is)
    (case x_a__law_refusal => k_is)
    (case x_i__law_refusal => k_is)
    (case x_l__law_refusal => k_is)
    (case x_c__law_refusal => k_is)
    (case x_k__law_refusal => k_is)
    (case x_a__law_tried => k_is)
    (case x_i__law_tried => k_is)
    (case x_l__law_tried => k_is)
    (case x_c__law_tried => k_is)
    (case x_k__law_tried => k_is)
    (case x_a__law_is => k_is)
    (case x_i__law_is => k_is)
    (case x_l__law_is => k_is)
    (case x_c__law_is => k_is)
    (case x_k__law_is => k_is)
    (case x_a__law_is_text => k_is)
    (case x_i__law_is_text => k_is)
    (case x_l__law_is_text => k_is)
    (case x_c__law_is_text => k_is)
    (case x_k__law_is_text => k_is)
    (case x_a__law_odd => k_is)
    (case x_i__law_odd => k_is)
    (case x_l__law_odd => k_is)
    (case x_c__law_odd => k_is)
    (case x_k__law_odd => k_is)
    (case x_a__law_line => k_is)
    (case x_i__law_line => k_is)
    (case x_l__law_line => k_is)
    (case x_c__law_line => k_is)
    (case x_k__law_line => k_is)
    (case x_a__law_due => k_is)
    (case x_i__law_due => k_is)
    (case x_l__law_due => k_is)
    (case x_c__law_due => k_is)
    (case x_k__law_due => k_is)
    (case x_a__law_fits => k_is)
    (case x_i__law_fits => k_is)
    (case x_l__law_fits => k_is)
    (case x_c__law_fits => k_is)
    (case x_k__law_fits => k_is)
    (case x_a__law_right => k_is)
    (case x_i__law_right => k_is)
    (case x_l__law_right => k_is)
    (case x_c__law_right => k_is)
    (case x_k__law_right => k_is)
    (case x_a_law => k_is)
    (case x_i_law => k_is)
    (case x_l_law => k_is)
    (case x_c_law => k_is)
    (case x_k_law => k_is)
    (case x_me_tb__law_right => first | rfl | k_exc | k_is)
    (case x_me_cd__law_right => first | rfl | k_exc | k_is)
    (case x_me_hd__law_right => first | rfl | k_exc | k_is)
    (case x_me_np__law_right => first | rfl | k_exc | k_is)
    (case x_tab__law_right => exact PySem.W.km_tabs_of Y _ (by decide))
    (case x_me_ps__law_right => first | rfl | k_exc | k_is)
