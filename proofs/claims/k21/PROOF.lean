import PyProof.Rows.All
import Wide.All
import OpenK.AllK
import Wide.FinOn
import PyProof.ReprRoads
import HandS.ForMost
import HandS.ForExc
import HandS.IsInst
import HandS.Codes
import HandS.Star
import HandS.Conv
import HandS.Wide
import HandS.WideBits
import HandS.FStr
import HandS.MakeKwOnly
import HandS.Defaults
import HandS.Flow
import HandS.Style
import KE.GoesEnum
import PyProof.ReprLen
import HandS.TupMul
import HandS.Lambda
import HandS.Steps
import HandS.TupAny
import HandS.Zip
import KE.DataCmp
import KE.SortData
import HandS.Dict
import HandS.SetKeys
import KE.GoesMore
import HandS.CallLocal
import PyProof.P3In
import HandS.OwnEq
import PyProof.Rows.SetFrom
import PyProof.WalksMore
import HandS.More
import PyProof.EqKinds
import PyProof.DictRoadsH
import PyProof.MinMaxWalk
import PyProof.StrOps
import PyProof.TupleOfSeq
import HandS.SetFor
import HandS.Strs
import HandS.WordsExc
import HandS.ExcInit
import HandS.ExcField
import HandS.ExcIs
import HandS.TryMany
import HandS.EndTab
import KE.KExcIs
import KE.KNestM
import KE.KTryMore
import HandS.HotCalls
import PyProof.Rows.Range3
import PyProof.Conv_bool
import HandS.TryOnly
import PyProof.StrLawsIn
import HandS.ExcValue
import PyProof.Rows.Digits
import PyProof.FactsAll.tuple
import PyProof.FactsAll.NoneType
import PySem.Challenge.RW_shownshort_k21_things_of_any_kind_judged
set_option Elab.async false
set_option linter.all false
set_option maxRecDepth 100000
set_option maxHeartbeats 4000000
set_option synthInstance.maxHeartbeats 2000000
set_option synthInstance.maxSize 100000
namespace U
open PySem PySem.Spec PyProof.Rows L2
inductive D where
  | non | bl (b : Bool) | int (i : Int) | str (x : Str) | lst (xs : List D) | tup (xs : List D) | ins (C : Addr) (ns : List Str) (xs : List D)
  | ptr (a : Addr) | ty (n : String) | opq (a : Addr) (o : HO) | ftp (xs : List D)
mutual
/-- v is the datum d in H; no object of it stands in S -/
inductive Dt (S : Addr → Prop) (H : Hp) : V → D → Prop
  | non : Dt S H .non .non
  | bl (b : Bool) : Dt S H (.bl b) (.bl b)
  | int (i : Int) : Dt S H (.int i) (.int i)
  | str (x : Str) : Dt S H (.str x) (.str x)
  | lst {a : Addr} {xs : List V} {ds : List D} : ¬ S a → H a = some (.lst xs) → DtA S H xs ds → Dt S H (.ref a) (.lst ds)
  | tup {a : Addr} {xs : List V} {ds : List D} : ¬ S a → H a = some (.tup xs) → DtA S H xs ds → Dt S H (.ref a) (.tup ds)
  | ins {a C dx : Addr} {fs : List (Str × V)} {ns : List Str} {ds : List D} : ¬ S a → H a = some (.ins C dx fs) → fs.map (·.1) = ns → DtA S H (fs.map (·.2)) ds → Dt S H (.ref a) (.ins C ns ds)
  | ptr (a : Addr) : Dt S H (.ref a) (.ptr a)
  | ty (n : String) : Dt S H (.ty n) (.ty n)
  | opq {a : Addr} {o : HO} : ¬ S a → H a = some o → Dt S H (.ref a) (.opq a o)
  /-- a tuple that is known to have no dict -/
  | ftp {a : Addr} {o : Obj} {xs : List V} {ds : List D} : ¬ S a → H a = some (.frz o (.tup xs)) → o.dict = none → DtA S H xs ds → Dt S H (.ref a) (.ftp ds)
inductive DtA (S : Addr → Prop) (H : Hp) : List V → List D → Prop
  | nil : DtA S H [] []
  | cons {v : V} {vs : List V} {d : D} {ds : List D} : Dt S H v d → DtA S H vs ds → DtA S H (v :: vs) (d :: ds)
end
/-- nothing -/
abbrev N0 : Addr → Prop := fun _ => False
/-- H' holds all that H holds, but what stands in S -/
def Ext (S : Addr → Prop) (H H' : Hp) : Prop := ∀ b o, ¬ S b → H b = some o → H' b = some o
section
variable {S S' : Addr → Prop} {H H1 H2 H' : Hp}
theorem Ext.refl (H : Hp) : Ext S H H := fun _ _ _ h => h
theorem Ext.trans (a : Ext S H H1) (b : Ext S H1 H2) : Ext S H H2 := fun c o n h => b c o n (a c o n h)
theorem Ext.of (e : Same H H') : Ext S H H' := fun b o _ h => e b o h
theorem Same.new {p : Addr} {o : HO} (h : H p = none) : Same H (upd H p o) := fun b u e => by
  rw [upd_ne (ne_of_none e h)]
  exact e
theorem Same.snew {p : Addr} {o : HO} (e : Same H H1) (h : H1 p = none) : Same H (upd H1 p o) := e.trans (Same.new h)
theorem Ext.new {p : Addr} {o : HO} (e : Ext S H H1) (h : H1 p = none) : Ext S H (upd H1 p o) := e.trans (Ext.of (Same.new h))
theorem Ext.mut {p : Addr} {o : HO} (e : Ext S H H1) (h : S p) : Ext S H (upd H1 p o) := fun b u n hb => by
  rw [upd_ne (fun z => n (by rw [z]; exact h))]
  exact e b u n hb
theorem Ext.less (e : Ext S H H1) (h : ∀ a, S a → S' a) : Ext S' H H1 := fun b o n hb => e b o (fun z => n (h b z)) hb
/-- all but one that was not there -/
theorem Ext.same {l : Addr} (e : Ext (fun a => a = l) H H1) (hl : H l = none) : Same H H1 := fun b o h => e b o (fun z => by rw [z, hl] at h; cases h) h
mutual
theorem Dt.mono (e : Ext S H H') : ∀ (d : D) {v : V}, Dt S H v d → Dt S H' v d
  | .non, _, h => by cases h; exact .non
  | .bl b, _, h => by cases h; exact .bl b
  | .int i, _, h => by cases h; exact .int i
  | .str x, _, h => by cases h; exact .str x
  | .lst ds, _, h => by
    cases h with
    | lst n ha hs => exact .lst n (e _ _ n ha) (DtA.mono e ds hs)
  | .tup ds, _, h => by
    cases h with
    | tup n ha hs => exact .tup n (e _ _ n ha) (DtA.mono e ds hs)
  | .ins C ns ds, _, h => by
    cases h with
    | ins n ha hn hs => exact .ins n (e _ _ n ha) hn (DtA.mono e ds hs)
  | .ptr a, _, h => by cases h; exact .ptr a
  | .ty n, _, h => by cases h; exact .ty n
  | .opq a o, _, h => by
    cases h with
    | opq n ha => exact .opq n (e _ _ n ha)
  | .ftp ds, _, h => by
    cases h with
    | ftp n ha hd hs => exact .ftp n (e _ _ n ha) hd (DtA.mono e ds hs)
theorem DtA.mono (e : Ext S H H') : ∀ (ds : List D) {vs : List V}, DtA S H vs ds → DtA S H' vs ds
  | [], _, h => by cases h; exact .nil
  | d :: ds, _, h => by
    cases h with
    | cons h1 h2 => exact .cons (Dt.mono e d h1) (DtA.mono e ds h2)
end
mutual
/-- another set of what may change -/
theorem Dt.set (f : ∀ a, ¬ S a → H a ≠ none → ¬ S' a) : ∀ (d : D) {v : V}, Dt S H v d → Dt S' H v d
  | .non, _, h => by cases h; exact .non
  | .bl b, _, h => by cases h; exact .bl b
  | .int i, _, h => by cases h; exact .int i
  | .str x, _, h => by cases h; exact .str x
  | .lst ds, _, h => by
    cases h with
    | lst n ha hs => exact .lst (f _ n (by rw [ha]; exact fun z => nomatch z)) ha (DtA.set f ds hs)
  | .tup ds, _, h => by
    cases h with
    | tup n ha hs => exact .tup (f _ n (by rw [ha]; exact fun z => nomatch z)) ha (DtA.set f ds hs)
  | .ins C ns ds, _, h => by
    cases h with
    | ins n ha hn hs => exact .ins (f _ n (by rw [ha]; exact fun z => nomatch z)) ha hn (DtA.set f ds hs)
  | .ptr a, _, h => by cases h; exact .ptr a
  | .ty n, _, h => by cases h; exact .ty n
  | .opq a o, _, h => by
    cases h with
    | opq n ha => exact .opq (f _ n (by rw [ha]; exact fun z => nomatch z)) ha
  | .ftp ds, _, h => by
    cases h with
    | ftp n ha hd hs => exact .ftp (f _ n (by rw [ha]; exact fun z => nomatch z)) ha hd (DtA.set f ds hs)
theorem DtA.set (f : ∀ a, ¬ S a → H a ≠ none → ¬ S' a) : ∀ (ds : List D) {vs : List V}, DtA S H vs ds → DtA S' H vs ds
  | [], _, h => by cases h; exact .nil
  | d :: ds, _, h => by
    cases h with
    | cons h1 h2 => exact .cons (Dt.set f d h1) (DtA.set f ds h2)
end
theorem Dt.go {d : D} {v : V} (h : Dt S H v d) (e : Ext S H H') : Dt S H' v d := Dt.mono e d h
theorem Dt.sm {d : D} {v : V} (h : Dt S H v d) (e : Same H H') : Dt S H' v d := Dt.mono (Ext.of e) d h
theorem DtA.go {d : List D} {v : List V} (h : DtA S H v d) (e : Ext S H H') : DtA S H' v d := DtA.mono e d h
theorem DtA.sm {d : List D} {v : List V} (h : DtA S H v d) (e : Same H H') : DtA S H' v d := DtA.mono (Ext.of e) d h
/-- a new object may change from now on -/
theorem Dt.fresh {d : D} {v : V} {l : Addr} (h : Dt S H v d) (hl : H l = none) : Dt (fun a => S a ∨ a = l) H v d :=
  Dt.set (fun a n k z => z.elim n fun q => k (by rw [q]; exact hl)) d h
/-- nothing changes any more -/
theorem Dt.n0 {d : D} {v : V} (h : Dt S H v d) : Dt N0 H v d := Dt.set (fun _ _ _ z => z) d h
theorem DtA.n0 {d : List D} {v : List V} (h : DtA S H v d) : DtA N0 H v d := DtA.set (fun _ _ _ z => z) d h
theorem DtA.length : ∀ {vs : List V} {ds : List D}, DtA S H vs ds → vs.length = ds.length
  | _, _, .nil => rfl
  | _, _, .cons _ t => congrArg Nat.succ (DtA.length t)
theorem DtA.append : ∀ {vs ws : List V} {ds es : List D}, DtA S H vs ds → DtA S H ws es → DtA S H (vs ++ ws) (ds ++ es)
  | _, _, _, _, .nil, k => k
  | _, _, _, _, .cons h t, k => .cons h (DtA.append t k)
theorem DtA.snoc {vs : List V} {ds : List D} {v : V} {d : D} (h : DtA S H vs ds) (k : Dt S H v d) : DtA S H (vs ++ [v]) (ds ++ [d]) := h.append (.cons k .nil)
theorem DtA.get : ∀ {vs : List V} {ds : List D} {i : Nat} {d : D}, DtA S H vs ds → ds[i]? = some d → ∃ v, vs[i]? = some v ∧ Dt S H v d
  | _, _, _, _, .nil, e => by simp at e
  | _, _, 0, _, .cons h _, e => by
    simp at e
    subst e
    exact ⟨_, rfl, h⟩
  | _, _, i + 1, d, .cons _ t, e => by
    obtain ⟨v, h1, h2⟩ := DtA.get (i := i) (d := d) t (by simpa using e)
    exact ⟨v, by simpa using h1, h2⟩
theorem DtA.getV : ∀ {vs : List V} {ds : List D} {i : Nat} {v : V}, DtA S H vs ds → vs[i]? = some v → ∃ d, ds[i]? = some d ∧ Dt S H v d
  | _, _, _, _, .nil, e => by simp at e
  | _, _, 0, _, .cons h _, e => by
    simp at e
    subst e
    exact ⟨_, rfl, h⟩
  | _, _, i + 1, d, .cons _ t, e => by
    obtain ⟨v, h1, h2⟩ := DtA.getV (i := i) (v := d) t (by simpa using e)
    exact ⟨v, by simpa using h1, h2⟩
theorem DtA.take : ∀ {vs : List V} {ds : List D} (n : Nat), DtA S H vs ds → DtA S H (vs.take n) (ds.take n)
  | _, _, 0, _ => .nil
  | _, _, _ + 1, .nil => .nil
  | _, _, n + 1, .cons h t => .cons h (DtA.take n t)
theorem DtA.drop : ∀ {vs : List V} {ds : List D} (n : Nat), DtA S H vs ds → DtA S H (vs.drop n) (ds.drop n)
  | _, _, 0, h => h
  | _, _, _ + 1, .nil => .nil
  | _, _, n + 1, .cons _ t => DtA.drop n t
theorem DtA.reverse : ∀ {vs : List V} {ds : List D}, DtA S H vs ds → DtA S H vs.reverse ds.reverse
  | _, _, .nil => .nil
  | _, _, .cons h t => by
    rw [List.reverse_cons, List.reverse_cons]
    exact (DtA.reverse t).snoc h
theorem DtA.strs_eq : ∀ {vs : List V} {l : List Str}, DtA S H vs (l.map D.str) → vs = l.map V.str
  | _, [], h => by cases h; rfl
  | _, x :: l, h => by
    cases h with
    | cons h1 h2 =>
      cases h1
      rw [DtA.strs_eq h2]
      rfl
theorem DtA.ints_eq : ∀ {vs : List V} {l : List Int}, DtA S H vs (l.map D.int) → vs = l.map V.int
  | _, [], h => by cases h; rfl
  | _, x :: l, h => by
    cases h with
    | cons h1 h2 =>
      cases h1
      rw [DtA.ints_eq h2]
      rfl
theorem DtA.bls_eq : ∀ {vs : List V} {l : List Bool}, DtA S H vs (l.map D.bl) → vs = l.map V.bl
  | _, [], h => by cases h; rfl
  | _, x :: l, h => by
    cases h with
    | cons h1 h2 =>
      cases h1
      rw [DtA.bls_eq h2]
      rfl
end
mutual
def D.flat : D → Bool
  | .lst _ => false
  | .tup ds => D.flats ds
  | .ins _ _ ds => D.flats ds
  | .opq _ _ => false
  | .ftp _ => false
  | _ => true
def D.flats : List D → Bool
  | [] => true
  | d :: ds => D.flat d && D.flats ds
end
mutual
theorem Dt.nl {H : Hp} {l : Addr} {xs : List V} (hl : H l = some (.lst xs)) : ∀ (d : D) {v : V}, D.flat d = true → Dt N0 H v d → Dt (fun a => a = l) H v d
  | .non, _, _, h => by cases h; exact .non
  | .bl b, _, _, h => by cases h; exact .bl b
  | .int i, _, _, h => by cases h; exact .int i
  | .str x, _, _, h => by cases h; exact .str x
  | .lst ds, _, f, _ => by rw [D.flat] at f; cases f
  | .tup ds, _, f, h => by
    rw [D.flat] at f
    cases h with
    | tup n ha hs => exact .tup (fun z => by rw [z, hl] at ha; cases ha) ha (DtA.nl hl ds f hs)
  | .ins C ns ds, _, f, h => by
    rw [D.flat] at f
    cases h with
    | ins n ha hn hs => exact .ins (fun z => by rw [z, hl] at ha; cases ha) ha hn (DtA.nl hl ds f hs)
  | .ptr a, _, _, h => by cases h; exact .ptr a
  | .ty n, _, _, h => by cases h; exact .ty n
  | .opq a o, _, f, h => by rw [D.flat] at f; cases f
  | .ftp ds, _, f, h => by rw [D.flat] at f; cases f
theorem DtA.nl {H : Hp} {l : Addr} {xs : List V} (hl : H l = some (.lst xs)) : ∀ (ds : List D) {vs : List V}, D.flats ds = true → DtA N0 H vs ds → DtA (fun a => a = l) H vs ds
  | [], _, _, h => by cases h; exact .nil
  | d :: ds, _, f, h => by
    rw [D.flats, Bool.and_eq_true] at f
    cases h with
    | cons h1 h2 => exact .cons (Dt.nl hl d f.1 h1) (DtA.nl hl ds f.2 h2)
end
mutual
def D.py : D → Option PyData
  | .non => some .none
  | .bl b => some (.bool b)
  | .int i => some (.int i)
  | .str x => some (.str x)
  | .lst ds => (D.pys ds).map .list
  | .tup ds => (D.pys ds).map .tuple
  | .ftp ds => (D.pys ds).map .tuple
  | _ => none
def D.pys : List D → Option (List PyData)
  | [] => some []
  | d :: ds => match D.py d, D.pys ds with
    | some p, some q => some (p :: q)
    | _, _ => none
end
mutual
theorem Dt.dp {K : PySem.W.Frag} {S : Addr → Prop} {H : Hp} : ∀ (d : D) {v : V} {p : PyData}, Dt S H v d → D.py d = some p → Dp K H v p
  | .non, _, _, h, e => by cases h; cases e; exact .non
  | .bl b, _, _, h, e => by cases h; cases e; exact .bl b
  | .int i, _, _, h, e => by cases h; cases e; exact .int i
  | .str x, _, _, h, e => by cases h; cases e; exact .str x
  | .lst ds, _, _, h, e => by
    cases h with
    | lst n ha hs =>
      rw [D.py] at e
      cases q : D.pys ds with
      | none => rw [q] at e; cases e
      | some l =>
        rw [q] at e
        cases e
        exact .lst (SqL.of ha) (DtA.dp ds hs q)
  | .tup ds, _, _, h, e => by
    cases h with
    | tup n ha hs =>
      rw [D.py] at e
      cases q : D.pys ds with
      | none => rw [q] at e; cases e
      | some l =>
        rw [q] at e
        cases e
        exact .tup (SqT.of ha) (DtA.dp ds hs q)
  | .ins C ns ds, _, _, h, e => by rw [D.py] at e <;> first | cases e | (intros; contradiction)
  | .ptr a, _, _, h, e => by rw [D.py] at e <;> first | cases e | (intros; contradiction)
  | .ty a, _, _, h, e => by rw [D.py] at e <;> first | cases e | (intros; contradiction)
  | .opq a o, _, _, h, e => by rw [D.py] at e <;> first | cases e | (intros; contradiction)
  | .ftp ds, _, _, h, e => by
    cases h with
    | ftp n ha hd hs =>
      rw [D.py] at e
      cases q : D.pys ds with
      | none => rw [q] at e; cases e
      | some l =>
        rw [q] at e
        cases e
        exact .tup (Or.inl (Or.inr ⟨_, ha⟩)) (DtA.dp ds hs q)
theorem DtA.dp {K : PySem.W.Frag} {S : Addr → Prop} {H : Hp} : ∀ (ds : List D) {vs : List V} {ps : List PyData}, DtA S H vs ds → D.pys ds = some ps → DpAll K H vs ps
  | [], _, _, h, e => by cases h; rw [D.pys] at e; cases e; exact .nil
  | d :: ds, _, _, h, e => by
    cases h with
    | cons h1 h2 =>
      rw [D.pys] at e
      cases q1 : D.py d with
      | none => rw [q1] at e; cases e
      | some p =>
        cases q2 : D.pys ds with
        | none => rw [q1, q2] at e; cases e
        | some ps =>
          rw [q1, q2] at e
          cases e
          exact .cons (Dt.dp d h1 q1) (DtA.dp ds h2 q2)
end
end U
namespace U
open PySem PySem.Spec PyProof.Rows L2
/-- a def's promise where no show is under way -/
structure FnG (P : Program) (w : World) (K : PySem.W.Frag) (mg : Str → Option Value) (base : Heap) (k : Nat) (f : Addr) (fd : FuncData) (ps : List Str) (sp : Sp) : Prop where
  len : ∀ vs H Q E, sp vs H Q E → vs.length = ps.length
  run : ∀ (A : Around) (outer : List Env) (s : Shared) (H : Hp) (args : Args) (us : List Value) (vs : List V) (Q : VK) (E : XK), Room k A → A.guards = some [] →
    Env0 P w K mg base A outer s H → BindsTo s fd args (ps.zip us) → Vals vs us → sp vs H Q E → codeAny (model P w) A (.call (.ref f) args) (CR L2.CX0 outer P w H s Q E) s
section
variable {P : Program} {w : World} {K : PySem.W.Frag} {mg : Str → Option Value} {base : Heap} {x qual : Str} {st : Stmt} {f : Addr} {fd : FuncData} {N ps : List Str} {k : Nat} {sp : Sp}
/-- by its body -/
theorem fnG_of (F : L2.Fun K x qual st f fd) (S : FnScope N ps (L2.defScope st)) (len : ∀ vs H Q E, sp vs H Q E → vs.length = ps.length)
    (hb : ∀ (cdv : Value) (A : Around) (outer : List Env) (s : Shared) (H : Hp) (vs : List V) (Q : VK) (E : XK), Room k (A.deeper (envOfC qual (L2.defScope st) s.heap.objs.size f cdv)) → A.guards = some [] → sp vs H Q E →
      ∃ t, PSs (cxOf L2.CX0 P w K mg base N qual (L2.defScope st) f cdv A outer s H E).nox (L2.defBody st) t ∧ t { nx := fun _ H' => Q .non H', rt := Q } (start N vs) H) :
    FnG P w K mg base (k + 1) f fd ps sp := by
  obtain ⟨oc, od, kV, doc, pm, an, cdv, ct, osl, rfl, lk, hcd⟩ := F.ex
  refine ⟨len, fun A outer s H args us vs Q E hr hg e0 hbd r hsp => ?_⟩
  have hl : vs.length = ps.length := len _ _ _ _ hsp
  have KX : K.In s.heap := e0.mod.kin.keeps (fun b o e => (e0.bs b o e).1)
  have lim : s.heap.NoLimit := e0.mod.nolimit.keeps (fun b o e => (e0.bs b o e).1)
  have kinds : ∀ y ∈ ps.zip us, (L2.defScope st).names.lookup y.1 = some .local ∨ ((L2.defScope st).names.lookup y.1 = some .cell ∧ ((cellsFrom (s.heap.objs.size + 1) (L2.defScope st).names []).lookup y.1).isSome = true) := by
    rintro ⟨n, v⟩ hy
    rcases S.par n (List.of_mem_zip hy).1 with q | q
    · exact Or.inl q
    · exact Or.inr ⟨q, PySem.W.cellsFrom_some _ _ _ (Or.inl q)⟩
  have lkd := KX _ _ lk
  have crec := PySem.W.codeRec_of KX hcd
  refine codeAny_call_function hr.depth lkd rfl S.co S.gen rfl crec (hbd _ _ _ _ ?_)
  refine wpAny_newFunctionEnv_cells S.kind kinds (fun env he s1 z => ?_)
  subst he
  refine ⟨lim.keeps z.toInCall.keep, codeAny_func ?_⟩
  have hr1 := hr.deeper (envOfC qual (L2.defScope st) s.heap.objs.size f cdv)
  obtain ⟨t, ht0, hq⟩ := hb cdv A outer s H vs Q E hr1 hg hsp
  have ht := ht0.nox
  have I := inv_start (CX := L2.CX0) (E := E) S hr.hd e0 hl r z
  have go := ht.run [] s1 (start N vs) H _ I hq
  refine wpAny_mono go ?_ (fun e s' hs => hs)
  intro fl s' hs
  cases fl with
  | next =>
    obtain ⟨σ', H', J, q⟩ := hs
    exact ⟨V.non, H', J.os, J.bare, J.base, J.hok, rfl, q⟩
  | brk =>
    obtain ⟨_, _, _, q⟩ := hs
    exact q.elim
  | cont =>
    obtain ⟨_, _, _, q⟩ := hs
    exact q.elim
  | ret u =>
    obtain ⟨v, σ', H', J, rv, q⟩ := hs
    exact ⟨v, H', J.os, J.bare, J.base, J.hok, rv, q⟩
end
section
variable {X : Cx} {k : Nat} {f C : Addr} {fd : FuncData} {ps ks : List Str} {sp : Sp} {x : Str} {p pos : Pos} {e : Expr} {es : List Expr} {t tk : TA} {kws : List Keyword}
/-- x(e, ..), x a def with such a promise -/
theorem pe_callG (F : FnG X.prog X.w X.K X.mg X.base k f fd ps sp) (hr : Room k X.A) (hgd : X.A.guards = some []) (hg : Gl X x) (hm : X.mg x = some (.ref f)) (hk : PySem.W.keepIn X.K (.ref f) = true) (hb : Binds X.K fd ps [])
    (ha : PA X (e :: es) t) (hdb : (x == ("__debug__" : Str)) = false := by decide) (he : starEach (e :: es) X.env = (false, eval e X.env) :: starEach es X.env := by rfl) (hpl : (backTo pos (starEach es X.env)).any (·.1) = false := by rfl) :
    PE X (.Call (.Name x p) (e :: es) [] pos) (tCall sp [] L2.E0 t) := by
  refine ⟨fun pins s σ H Q I h => wpAny_Call_Name_kw (ld_glob I hg hm ?_ hdb)⟩
  have ga := thn (ha.run pos pins s σ H _ I h) (Q' := fun us s1 => X.K.In s1.heap ∧ wpAny (model X.prog X.w) X.A (call (.ref f) us) (EP X pins σ Q) X.xe s1) (fun us s1 hh => by
    obtain ⟨vs, H1, I1, r, q⟩ := hh
    rw [List.append_nil] at q
    refine ⟨I1.kIn, ?_⟩
    have hl : (us ++ []).length = ps.length := by rw [List.append_nil, ← r.length]; exact F.len _ _ _ _ q
    have hbt := hb s1 us I1.kIn hl
    rw [List.append_nil] at hbt
    refine wpAny_call (codeAny_mono (F.run X.A X.stack s1 H1 ⟨us, []⟩ us vs Q L2.E0 hr hgd I1.env0 hbt r q) ?_)
    intro r' s' hq
    cases r' with
    | error z => exact False.elim hq
    | ok fl =>
      cases fl with
      | ret u => exact I1.after hq
      | next => exact False.elim hq
      | brk => exact False.elim hq
      | cont => exact False.elim hq)
  exact PySem.W.callWith_K (h₀ := X.base) I.ok.mod.kin hk ga he hpl
end
def rRepr (K : PySem.W.Frag) : List V → Hp → VK → Prop := fun xs H Q => ∃ (v : V) (p : PyData), xs = [v] ∧ Dp K H v p ∧ PyData.showable p = true ∧ PyData.hasDict p = false ∧ PyData.depth p ≤ 40 ∧ (PyData.shown p).length ≤ sizeLine ∧ Q (.str (PyData.shown p)) H
end U
namespace U
open PySem PySem.Spec PyProof.Rows L2
def spLaw (K : PySem.W.Frag) : Sp := fun vs H Q _ => ∃ (a : Addr) (ns : List Int), vs = [.ref a] ∧ SqL K H a (ns.map V.int) ∧ ns.length ≤ 63 ∧ ∀ H', Q (.bl true) H'
def scrO (vs : List Value) : Obj := { cls := .type "list", data := .seq vs.toArray }
/-- the script alone is tracked, where it is none of the written part -/
noncomputable def scrH (K : PySem.W.Frag) (a : Addr) (vs : List Value) (ns : List Int) : Hp := fun b => if b = a ∧ K.lookup a = none then some (.frz (scrO vs) (.lst (ns.map V.int))) else none
theorem scrH_some {K : PySem.W.Frag} {a b : Addr} {vs : List Value} {ns : List Int} {u : HO} (h : scrH K a vs ns b = some u) : b = a ∧ K.lookup a = none ∧ u = .frz (scrO vs) (.lst (ns.map V.int)) := by
  unfold scrH at h
  split at h
  · rename_i c
    exact ⟨c.1, c.2, (Option.some.inj h).symm⟩
  · cases h
theorem lawG {P : Program} {w : World} {K : PySem.W.Frag} {mg mb : Str → Option Value} {k : Nat} {fa a : Addr} {fd : FuncData} {x : Str} {s : Shared} {vs : List Value} {ns : List Int}
    (KX : K.In s.heap) (hns : s.heap.Ns mainGlobals mg) (hb : s.heap.Ns builtinsNs mb) (hbb : ∀ y : Str, y ≠ "__name__" → mb y = bootBuiltins y) (hlim : s.heap.NoLimit) (hgen : s.gens = #[])
    (ha : s.heap.get? a = some (scrO vs)) (hi : IntsAre vs ns) (hl : ns.length ≤ 63) (hr : Room k callerA)
    (F : ∀ base : Heap, K.In base → base.Ns mainGlobals mg → FnG P w K mg base k fa fd [x] (spLaw K)) (hbind : ∀ (t : Shared) (u : Value), BindsTo t fd ⟨[u], []⟩ [(x, u)]) :
    codeAny (model P w) callerA (.call (.ref fa) ⟨[.ref a], []⟩) (fun r s' => r = .ok (.ret (.bool true)) ∧ OldK s.heap s'.heap ∧ s'.os = s.os ∧ AllBare s'.gens) s := by
  have rv := vals_ints hi
  have lenV := hi.length
  have hsz : ns.length ≤ sizeLine := Nat.le_trans hl (by decide)
  have hok : HOk P w (scrH K a vs ns) s.heap := by
    intro b u e
    obtain ⟨rfl, _, rfl⟩ := scrH_some e
    exact ⟨ha, by rw [List.length_map]; exact hsz, vs, _, rv, ha⟩
  have untr : ∀ {b : Addr} {o : Obj} {es : Array DictEntry} {ep : Nat}, s.heap.get? b = some o → o.data = .dict es ep → scrH K a vs ns b = none := by
    intro b o es ep e d
    cases q : scrH K a vs ns b with
    | none => rfl
    | some u =>
      obtain ⟨rfl, _, _⟩ := scrH_some q
      rw [ha] at e
      cases e
      cases d
  have nsB : ∀ {b : Addr} {m : Str → Option Value}, s.heap.Ns b m → (hidT s.heap (scrH K a vs ns)).Ns b m := by
    rintro b m ⟨o, es, ep, e, d, r⟩
    exact ⟨o, es, ep, hidT_get e (untr e d), d, r⟩
  have KB : K.In (hidT s.heap (scrH K a vs ns)) := by
    intro b o e
    refine hidT_get (KX b o e) ?_
    cases q : scrH K a vs ns b with
    | none => rfl
    | some u =>
      obtain ⟨rfl, z, _⟩ := scrH_some q
      rw [z] at e
      cases e
  have hS : SqL K (scrH K a vs ns) a (ns.map V.int) := by
    cases hk : K.lookup a with
    | none => exact .inl (.inr ⟨scrO vs, if_pos ⟨rfl, hk⟩⟩)
    | some o =>
      have e := KX a o hk
      rw [ha] at e
      cases e
      refine .inr ⟨scrO vs, vs.toArray, _, hk, rfl, rfl, rfl, ?_, ?_⟩
      · rw [List.size_toArray, lenV]
        exact hsz
      · simpa using rv
  have hM : Mod K mg (hidT s.heap (scrH K a vs ns)) := by
    obtain ⟨mc, h1, h2⟩ := hlim
    exact ⟨KB, nsB hns, ⟨mb, nsB hb, hbb⟩, mc, nsB h1, h2⟩
  have e0 : Env0 P w K mg (hidT s.heap (scrH K a vs ns)) callerA [] s (scrH K a vs ns) :=
    ⟨rfl, hM, fun b o e => of_hidT e, Nat.le_of_eq (hidT_size _ _), trivial, (fun b hb => by cases hb), hok, .of_eq hgen⟩
  have go := (F _ KB (nsB hns)).run callerA [] s _ ⟨[.ref a], []⟩ [.ref a] [.ref a] (fun v _ => v = .bl true) (fun _ _ _ => False) hr rfl e0 (hbind s (.ref a)) (.cons rfl .nil) ⟨a, ns, rfl, hS, hl, fun _ => rfl⟩
  refine codeAny_mono go ?_
  intro r s' h
  cases r with
  | error e => exact False.elim h
  | ok fl =>
    cases fl with
    | next => exact False.elim h
    | brk => exact False.elim h
    | cont => exact False.elim h
    | ret u =>
      obtain ⟨v, H', os, bare, un, hok', r', rfl⟩ := h
      cases (show u = Value.bool true from r')
      refine ⟨rfl, OldK.of_keep ?_, os, bare⟩
      intro b o e
      cases q : scrH K a vs ns b with
      | none => exact un.keep b o e q (fun z => by cases z) (fun z => by cases z)
      | some u =>
        obtain ⟨rfl, _, rfl⟩ := scrH_some q
        have z2 := un.frzs _ _ _ q
        obtain ⟨e2, _⟩ := hok' _ _ z2
        rw [ha] at e
        cases e
        exact e2
theorem walkG {l : PySem.W.OpenLaw} {k : Nat} {q : Program} {loose : List Str} {XP : (Str → Option Value) → Heap → Prop} {YP : World → Heap → Prop} {d : DefRec} {K : Params → PySem.W.Frag} {x : Str}
    (hn : l.most = some 63) (hdf : d.params.defaults = []) (hr : Room k callerA) (hY : ∀ (w : World) (h : Heap), YP w h → (K w.params).In h)
    (F : ∀ (w : World) (mg : Str → Option Value) (fa : Addr) (h : Heap), (K w.params).In h → h.Ns mainGlobals mg → mg d.name = some (.ref fa) →
      ∃ fd : FuncData, (∀ (t : Shared) (u : Value), BindsTo t fd ⟨[u], []⟩ [(x, u)]) ∧ ∀ base : Heap, (K w.params).In base → base.Ns mainGlobals mg → FnG l.prog w (K w.params) mg base k fa fd [x] (spLaw (K w.params))) :
    PySem.W.WalkO q loose XP YP l.row.toRowW d [] (fun f vs => PySem.call f vs) := by
  refine Att.attach_call hn hdf ?_
  intro w s₀ s₁ mg mb fa o pm cd doc a vs ns G Y ho hd hcd hmg hobj hints hlen hg
  obtain ⟨fd, hb, hF⟩ := F w mg fa _ (hY w _ Y) G.T.g hmg
  exact lawG (hY w _ Y) G.T.g G.T.b G.T.builtins G.T.nolimit hg hobj hints hlen hr hF hb
section
variable {P : Program} {w : World} {H H1 H2 : Hp} {h h' : Heap} {p : Addr} {o : HO} {φ : Heap → Prop} {fs ex : List Addr}
theorem hok_in (ok : HOk P w H h) (hp : H p = some (.ext φ)) (new : ObjOk P w (upd H p o) h p o) : HOk P w (upd H p o) h := by
  intro b u e
  by_cases hb : b = p
  · subst hb
    rw [upd_same] at e
    cases e
    exact new
  · rw [upd_ne hb] at e
    refine (ok b u e).stay (fun c v _ q => q) (fun c q => ?_) (fun c xs q => ?_)
    · rw [upd_ne (fun z => by rw [z, hp] at q; cases q)]
      exact q
    · rw [upd_ne (fun z => by rw [z, hp] at q; cases q)]
      exact q
theorem hok_out {xs : List V} (ok : HOk P w H h) (hp : H p = some (.lst xs)) (hφ : φ h) (st : ∀ h1 h2 : Heap, φ h1 → (∀ u, h1.get? p = some u → h2.get? p = some u) → φ h2) : HOk P w (upd H p (.ext φ)) h := by
  intro b u e
  by_cases hb : b = p
  · subst hb
    rw [upd_same] at e
    cases e
    obtain ⟨_, its, n, _, z⟩ := ok _ _ hp
    exact ⟨hφ, ⟨_, z⟩, st⟩
  · rw [upd_ne hb] at e
    refine (ok b u e).stay (fun c v _ q => q) (fun c q => ?_) (fun c xs q => ?_)
    · rw [upd_ne (fun z => by rw [z, hp] at q; cases q)]
      exact q
    · rw [upd_ne (fun z => by rw [z, hp] at q; cases q)]
      exact q
theorem un_in (u : Un fs ex (upd H p o) H1 h h') (hp : H p = some (.ext φ)) : Un fs ex H H1 h h' := by
  have nn : ∀ b, H b = none → upd H p o b = none := fun b n => by
    rw [upd_ne (fun z => by rw [z, hp] at n; cases n)]
    exact n
  have ne : ∀ b v, H b = some v → (∀ ψ, v ≠ .ext ψ) → upd H p o b = some v := fun b v e n => by
    rw [upd_ne (fun z => by rw [z, hp] at e; cases e; exact n _ rfl)]
    exact e
  exact ⟨fun b v e n => u.keep b v e (nn b n), fun b v e n => u.slot b v e (nn b n), fun b v e n => u.free b v e (nn b n), u.there,
    fun b xs e => u.tups b xs (ne b _ e (fun _ z => nomatch z)), fun b v t e => u.frzs b v t (ne b _ e (fun _ z => nomatch z)), fun b ps e => u.tbls b ps (ne b _ e (fun _ z => nomatch z))⟩
theorem un_out {xs : List V} (u : Un fs ex H H1 h h') (hp : H1 p = some (.lst xs)) : Un fs ex H (upd H1 p (.ext φ)) h h' := by
  have ne : ∀ b v, H1 b = some v → (∀ ys, v ≠ .lst ys) → upd H1 p (.ext φ) b = some v := fun b v e n => by
    rw [upd_ne (fun z => by rw [z, hp] at e; cases e; exact n _ rfl)]
    exact e
  refine ⟨u.keep, u.slot, fun b v e n hx => ?_, u.there, fun b xs e => ne b _ (u.tups b xs e) (fun _ z => nomatch z), fun b v t e => ne b _ (u.frzs b v t e) (fun _ z => nomatch z), fun b ps e => ?_⟩
  · have z := u.free b v e n hx
    rw [upd_ne (fun q => by rw [q, hp] at z; cases z)]
    exact z
  · obtain ⟨m, e1⟩ := u.tbls b ps e
    exact ⟨m, ne b _ e1 fun _ z => nomatch z⟩
end
def potP (p : Addr) : Heap → Prop := fun h => ∃ (a b c : Int) (its : List Value) (n : Nat), Vals [.int a, .int b, .int c] its ∧ h.get? p = some { cls := .type "list", data := .seq its.toArray n }
def potO (p : Addr) : HO := .ext (potP p)
def Pot (H : Hp) (p : Addr) : Prop := H p = some (potO p)
def potL (a b c : Int) : HO := .lst [.int a, .int b, .int c]
theorem pot_st {p : Addr} : ∀ h1 h2 : Heap, potP p h1 → (∀ u, h1.get? p = some u → h2.get? p = some u) → potP p h2 := fun h1 h2 ⟨a, b, c, its, n, v, e⟩ k => ⟨a, b, c, its, n, v, k _ e⟩
theorem Pot.sm {H H' : Hp} {p : Addr} (h : Pot H p) (e : Same H H') : Pot H' p := e _ _ h
theorem Pot.go {S : Addr → Prop} {H H' : Hp} {p : Addr} (h : Pot H p) (e : Ext S H H') (n : ¬ S p) : Pot H' p := e _ _ n h
section
variable {P : Program} {w : World} {K : PySem.W.Frag} {mg : Str → Option Value} {base : Heap} {k : Nat} {f : Addr} {fd : FuncData} {ps : List Str} {sp sp' : Sp}
/-- a def that changes the pot: from its promise over the list itself -/
theorem fn_pot (F : FnOk P w K mg base L2.CX0 k f fd ps sp) (len : ∀ vs H Q E, sp' vs H Q E → vs.length = ps.length)
    (go : ∀ vs H Q E, sp' vs H Q E → ∃ p, Pot H p ∧ ∀ a b c, sp vs (upd H p (potL a b c)) (fun v H' => (∃ x y z, H' p = some (potL x y z)) ∧ Q v (upd H' p (potO p))) E) :
    FnOk P w K mg base L2.CX0 k f fd ps sp' := by
  refine ⟨len, fun A outer s H args us vs Q E hr e0 hb r hsp => ?_⟩
  obtain ⟨p, hp, g⟩ := go _ _ _ _ hsp
  obtain ⟨⟨a, b, c, its, n, rv, hget⟩, _, _⟩ := e0.hok p _ hp
  have np : ∀ b, H b = none → upd H p (potL a b c) b = none := fun b z => by
    rw [upd_ne (fun q => by rw [q, hp] at z; cases z)]
    exact z
  have np' : ∀ q, H q = none → upd H p (potL a b c) q = none := fun q z => by
    rw [upd_ne (fun t => by rw [t, hp] at z; cases z)]
    exact z
  have e1 : Env0 P w K mg base A outer s (upd H p (potL a b c)) :=
    ⟨e0.frames, e0.mod, fun q o e => ⟨(e0.bs q o e).1, np' q (e0.bs q o e).2⟩, e0.bsz, e0.funs, fun q hq => np' q (e0.frf q hq), hok_in e0.hok hp ⟨by show 3 ≤ sizeLine; decide, its, n, rv, hget⟩, e0.bare⟩
  refine codeAny_mono (F.run A outer s _ args us vs _ E hr e1 hb r (g a b c)) ?_
  intro r' s' hq
  cases r' with
  | error z => exact hq
  | ok fl =>
    cases fl with
    | next => exact hq
    | brk => exact hq
    | cont => exact hq
    | ret u =>
      obtain ⟨v, H', os, bare, un, hok', rel, ⟨x, y, z, hx⟩, q⟩ := hq
      have un2 := un_out (φ := potP p) (un_in un hp) hx
      obtain ⟨_, its', n', rv', e'⟩ := hok' p _ hx
      exact ⟨v, _, os, bare, un2, hok_out hok' hx ⟨x, y, z, its', n', rv', e'⟩ pot_st, rel, q⟩
/-- a def that makes a pot -/
theorem fn_potOut (F : FnOk P w K mg base L2.CX0 k f fd ps sp) (len : ∀ vs H Q E, sp' vs H Q E → vs.length = ps.length)
    (go : ∀ vs H Q E, sp' vs H Q E → sp vs H (fun v H' => ∃ p x y z, H' p = some (potL x y z) ∧ Q v (upd H' p (potO p))) E) :
    FnOk P w K mg base L2.CX0 k f fd ps sp' := by
  refine ⟨len, fun A outer s H args us vs Q E hr e0 hb r hsp => ?_⟩
  refine codeAny_mono (F.run A outer s _ args us vs _ E hr e0 hb r (go _ _ _ _ hsp)) ?_
  intro r' s' hq
  cases r' with
  | error z => exact hq
  | ok fl =>
    cases fl with
    | next => exact hq
    | brk => exact hq
    | cont => exact hq
    | ret u =>
      obtain ⟨v, H', os, bare, un, hok', rel, p, x, y, z, hx, q⟩ := hq
      obtain ⟨_, its', n', rv', e'⟩ := hok' p _ hx
      exact ⟨v, _, os, bare, un_out (φ := potP p) un hx, hok_out hok' hx ⟨x, y, z, its', n', rv', e'⟩ pot_st, rel, q⟩
end
/-- a draw: a number below n -/
def spDraw : Sp := fun vs H Q _ => ∃ (p : Addr) (n : Int), vs = [.ref p, .int n] ∧ Pot H p ∧ (0 < n ∧ n < 1073741824) ∧ ∀ (r : Int) (H' : Hp), Same H H' → 0 ≤ r → r < n → Q (.int r) H'
/-- .. over the list itself -/
def spDraw1 : Sp := fun vs H Q _ => ∃ (p : Addr) (n a b c : Int), vs = [.ref p, .int n] ∧ H p = some (potL a b c) ∧ (0 < n ∧ n < 1073741824) ∧
  ∀ (r x y z : Int) (H' : Hp), Ext (fun q => q = p) H H' → H' p = some (potL x y z) → 0 ≤ r → r < n → Q (.int r) H'
theorem fn_draw {P : Program} {w : World} {K : PySem.W.Frag} {mg : Str → Option Value} {base : Heap} {k : Nat} {f : Addr} {fd : FuncData} {ps : List Str} (F : FnOk P w K mg base L2.CX0 k f fd ps spDraw1) (h2 : ps.length = 2) : FnOk P w K mg base L2.CX0 k f fd ps spDraw := by
  refine fn_pot F (fun vs H Q E h => ?_) (fun vs H Q E h => ?_)
  · obtain ⟨p, n, rfl, _⟩ := h
    rw [h2]
    rfl
  · obtain ⟨p, n, rfl, hp, hn, q⟩ := h
    refine ⟨p, hp, fun a b c => ⟨p, n, a, b, c, rfl, upd_same, hn, fun r x y z H' e hx h0 h1 => ⟨⟨x, y, z, hx⟩, q r _ (fun c o hc => ?_) h0 h1⟩⟩⟩
    by_cases hb : c = p
    · subst hb
      rw [show H c = some (potO c) from hp] at hc
      cases hc
      exact upd_same
    · rw [upd_ne hb]
      exact e c o hb (by rw [upd_ne hb]; exact hc)
/-- a new pot -/
def spPot (K : PySem.W.Frag) : Sp := fun vs H Q _ => ∃ (a : Addr) (ns : List Int) (i : Nat), vs = [.ref a, .int i] ∧ SqL K H a (ns.map V.int) ∧ ns.length ≤ 63 ∧ i ≤ 63 ∧ ∀ (p : Addr) (H' : Hp), Same H H' → Pot H' p → Q (.ref p) H'
def spPot1 (K : PySem.W.Frag) : Sp := fun vs H Q _ => ∃ (a : Addr) (ns : List Int) (i : Nat), vs = [.ref a, .int i] ∧ SqL K H a (ns.map V.int) ∧ ns.length ≤ 63 ∧ i ≤ 63 ∧
  ∀ (p : Addr) (x y z : Int) (H' : Hp), Same H H' → H p = none → H' p = some (potL x y z) → Q (.ref p) H'
theorem fn_newPot {P : Program} {w : World} {K : PySem.W.Frag} {mg : Str → Option Value} {base : Heap} {k : Nat} {f : Addr} {fd : FuncData} {ps : List Str} (F : FnOk P w K mg base L2.CX0 k f fd ps (spPot1 K)) (h2 : ps.length = 2) : FnOk P w K mg base L2.CX0 k f fd ps (spPot K) := by
  refine fn_potOut F (fun vs H Q E h => ?_) (fun vs H Q E h => ?_)
  · obtain ⟨a, ns, i, rfl, _⟩ := h
    rw [h2]
    rfl
  · obtain ⟨a, ns, i, rfl, hS, hn, hi, q⟩ := h
    refine ⟨a, ns, i, rfl, hS, hn, hi, fun p x y z H' e hp hx => ⟨p, x, y, z, hx, q p _ (fun c o hc => ?_) upd_same⟩⟩
    rw [upd_ne (ne_of_none hc hp)]
    exact e c o hc
end U
namespace U
open PySem PySem.Spec PyProof.Rows L2
section
variable {X : Cx}
def rAddU : R2 := fun x y H Q => match x, y with
  | .int i, .int j => Q (.int (i + j)) H
  | .str a, .str b => a.length + b.length ≤ sizeLine ∧ Q (.str (a ++ b)) H
  | .ref p, .ref q => ∃ xs ys, H p = some (.lst xs) ∧ H q = some (.lst ys) ∧ xs.length + ys.length ≤ sizeLine ∧ ∀ r, H r = none → Q (.ref r) (upd H r (.lst (xs ++ ys)))
  | _, _ => False
theorem op_addU : OpR X (binaryOp .Add) rAddU := by
  intro pins s σ H x y v u Q I rx ry h
  cases x with
  | int i =>
    cases y with
    | int j => exact op_add pins s σ H _ _ v u Q I rx ry ⟨i, j, rfl, rfl, h⟩
    | _ => exact h.elim
  | str a =>
    cases y with
    | str b => exact op_add_str pins s σ H _ _ v u Q I rx ry ⟨a, b, rfl, rfl, h.1, h.2⟩
    | _ => exact h.elim
  | ref p =>
    cases y with
    | ref q =>
      obtain ⟨xs, ys, h1, h2, h3, h4⟩ := h
      exact op_cat pins s σ H _ _ v u Q I rx ry ⟨p, q, xs, ys, rfl, rfl, h1, h2, h3, h4⟩
    | _ => exact h.elim
  | _ => exact h.elim
/-- == of anything: data by their contents -/
def rEqU (K : PySem.W.Frag) : R2 := fun x y H Q => match x, y with
  | .ref p, .ref q => ∃ d e, Dp K H (.ref p) d ∧ Dp K H (.ref q) e ∧ SeqAt.shaped d = true ∧ SeqAt.shaped e = true ∧ Q (.bl (PyData.eqv d e)) H
  | x, y => scal x y = true ∧ Q (.bl (decide (x = y))) H
def rNeU (K : PySem.W.Frag) : R2 := fun x y H Q => match x, y with
  | .ref p, .ref q => ∃ d e, Dp K H (.ref p) d ∧ Dp K H (.ref q) e ∧ SeqAt.shaped d = true ∧ SeqAt.shaped e = true ∧ Q (.bl (!PyData.eqv d e)) H
  | x, y => scal x y = true ∧ Q (.bl (!decide (x = y))) H
def rLtU : R2 := fun x y H Q => match x, y with
  | .int i, .int j => Q (.bl (decide (i < j))) H
  | .str i, .str j => Q (.bl (decide (i.cps.toList < j.cps.toList))) H
  | _, _ => False
theorem op_ltU : OpR X (compareOp .Lt) rLtU := by
  intro pins s σ H x y v u Q I rx ry h
  cases x with
  | int i =>
    cases y with
    | int j => exact op_lt pins s σ H _ _ v u Q I rx ry ⟨i, j, rfl, rfl, h⟩
    | _ => exact h.elim
  | str a =>
    cases y with
    | str b => exact op_lt_str pins s σ H _ _ v u Q I rx ry ⟨a, b, rfl, rfl, h⟩
    | _ => exact h.elim
  | _ => exact h.elim
/-- in, not in: a sign in a text, a flat thing in a list or tuple of flat things -/
def rInU (K : PySem.W.Frag) : R2 := fun x y H Q => match y with
  | .str z => ∃ c, x = .str ⟨#[c]⟩ ∧ Q (.bl (decide (c ∈ z.cps.toList))) H
  | .ref p => ∃ xs, (SqL K H p xs ∨ SqT K H p xs) ∧ flatV x = true ∧ xs.all flatV = true ∧ Q (.bl (inV x xs)) H
  | _ => False
def rNinU (K : PySem.W.Frag) : R2 := fun x y H Q => match y with
  | .str z => ∃ c, x = .str ⟨#[c]⟩ ∧ Q (.bl (!decide (c ∈ z.cps.toList))) H
  | .ref p => ∃ xs, (SqL K H p xs ∨ SqT K H p xs) ∧ flatV x = true ∧ xs.all flatV = true ∧ Q (.bl (!inV x xs)) H
  | _ => False
theorem op_inU : OpR X (compareOp .In) (rInU X.K) := by
  intro pins s σ H x y v u Q I rx ry h
  cases y with
  | str z =>
    obtain ⟨c, rfl, q⟩ := h
    exact op_in_sign pins s σ H _ _ v u Q I rx ry ⟨c, z, rfl, rfl, q⟩
  | ref p =>
    obtain ⟨xs, h1, h2, h3, q⟩ := h
    exact op_in_seq pins s σ H _ _ v u Q I rx ry ⟨p, xs, rfl, h1, h2, h3, q⟩
  | _ => exact h.elim
/-- x[i] of a list, a tuple, a text -/
def rIxU (K : PySem.W.Frag) : R2 := fun x y H Q => match x, y with
  | .ref p, .int i => ∃ xs v, (SqL K H p xs ∨ SqT K H p xs) ∧ atI xs i = some v ∧ Q v H
  | .str z, .int i => ∃ c, z.length ≤ sizeLine ∧ atI z.cps.toList i = some c ∧ Q (.str ⟨#[c]⟩) H
  | _, _ => False
theorem ix_U : IxR X (rIxU X.K) := by
  intro value slice pins s σ H x y v u Q I rx ry h hs
  refine ix_seq value slice pins s σ H x y v u Q I rx ry ?_ hs
  cases x with
  | ref p =>
    cases y with
    | int i =>
      obtain ⟨xs, w, h1, h2, q⟩ := h
      rcases h1 with h1 | h1
      · exact .inl ⟨p, xs, i, w, rfl, rfl, h1, h2, q⟩
      · exact .inr (.inl ⟨p, xs, i, w, rfl, rfl, h1, h2, q⟩)
    | _ => exact h.elim
  | str z =>
    cases y with
    | int i =>
      obtain ⟨c, h1, h2, q⟩ := h
      exact .inr (.inr ⟨z, i, c, rfl, rfl, h1, h2, q⟩)
    | _ => exact h.elim
  | _ => exact h.elim
/-- x[i:j] of a list, a text, a tuple that is not taken whole -/
def Sli (K : PySem.W.Frag) (H : Hp) (a : Addr) (lo hi : Option Int) (o : HO) : Prop := (∃ xs, SqL K H a xs ∧ o = .lst (cutV xs lo hi)) ∨
  (∃ xs, SqT K H a xs ∧ ¬ (HT.sIx xs.length 0 lo = 0 ∧ HT.sIx xs.length xs.length hi = xs.length) ∧ o = .tup (cutV xs lo hi))
def rSlU (K : PySem.W.Frag) : V → Option Int → Option Int → Hp → VK → Prop := fun x lo hi H Q => match x with
  | .ref a => ∃ o, Sli K H a lo hi o ∧ ∀ p, H p = none → Q (.ref p) (upd H p o)
  | .str z => z.length ≤ sizeLine ∧ Q (.str (cutS z lo hi)) H
  | _ => False
theorem sl_U : SlR X (rSlU X.K) := by
  intro pins s σ H x v vl vu lo hi sl Q I rx hs pl pu h
  cases x with
  | ref a =>
    obtain ⟨o, h, q⟩ := h
    rcases h with ⟨xs, h1, rfl⟩ | ⟨xs, h1, h2, rfl⟩
    · exact sl_list pins s σ H _ v vl vu lo hi sl Q I rx hs pl pu ⟨a, xs, rfl, h1, q⟩
    · exact sl_tup pins s σ H _ v vl vu lo hi sl Q I rx hs pl pu ⟨a, xs, rfl, h1, h2, q⟩
  | str z => exact sl_str pins s σ H _ v vl vu lo hi sl Q I rx hs pl pu ⟨z, rfl, h.1, h.2⟩
  | _ => exact h.elim
theorem sli_l {K : PySem.W.Frag} {H : Hp} {a : Addr} {lo hi : Option Int} {xs : List V} (h : SqL K H a xs) : Sli K H a lo hi (.lst (cutV xs lo hi)) := .inl ⟨xs, h, rfl⟩
def rLenU (K : PySem.W.Frag) : List V → Hp → VK → Prop := fun xs H Q => match xs with
  | [.str z] => z.length ≤ sizeLine ∧ Q (.int z.length) H
  | [.ref p] => ∃ ys, (SqL K H p ys ∨ SqT K H p ys) ∧ Q (.int ys.length) H
  | _ => False
theorem call_lenU : CallR X (.builtin "len") (rLenU X.K) := by
  intro pins s σ H xs us Q I r h
  match xs, h with
  | [.str z], h => exact call_len_str pins s σ H _ us Q I r ⟨z, rfl, h.1, h.2⟩
  | [.ref p], h =>
    obtain ⟨ys, h1, q⟩ := h
    exact call_len_seq pins s σ H _ us Q I r ⟨p, ys, rfl, h1, q⟩
/-- int(n) of an int -/
def rInt1 : List V → Hp → VK → Prop := fun xs H Q => match xs with
  | [.int i] => Q (.int i) H
  | _ => False
theorem call_intU : CallR X (.type "int") rInt1 := by
  intro pins s σ H xs us Q I r h
  match xs, h with
  | [.int i], h => exact call_int1 pins s σ H _ us Q I r (.inl ⟨i, rfl, h⟩)
def rI1 (f : Int → V) : List V → Hp → VK → Prop := fun xs H Q => match xs with
  | [.int i] => Q (f i) H
  | _ => False
def rI2 (f : Int → Int → V) : List V → Hp → VK → Prop := fun xs H Q => match xs with
  | [.int i, .int j] => Q (f i j) H
  | _ => False
theorem call_absU : CallR X (.builtin "abs") (rI1 fun i => .int (if i < 0 then -i else i)) := by
  intro pins s σ H xs us Q I r h
  match xs, h with
  | [.int i], h => exact call_abs pins s σ H _ us Q I r ⟨i, rfl, h⟩
theorem call_maxU (hc : X.calm = true) : CallR X (.builtin "max") (rI2 fun i j => .int (if j > i then j else i)) := by
  intro pins s σ H xs us Q I r h
  match xs, h with
  | [.int i, .int j], h => exact call_max2 hc pins s σ H _ us Q I r ⟨i, j, rfl, h⟩
theorem call_minU (hc : X.calm = true) : CallR X (.builtin "min") (rI2 fun i j => .int (if j < i then j else i)) := by
  intro pins s σ H xs us Q I r h
  match xs, h with
  | [.int i, .int j], h => exact call_min2 hc pins s σ H _ us Q I r ⟨i, j, rfl, h⟩
end
section
variable {σ : L2.St} {H : Hp} {Q : VK} {K : PySem.W.Frag} {D' : Ends}
theorem e_var {i : Nat} : tVar i σ H Q = ∃ v, σ[i]? = some (some v) ∧ Q v H := rfl
theorem e_c {v : V} : tC v σ H Q = Q v H := rfl
theorem e_op {r : R2} {ta tb : TE} : tOp r ta tb σ H Q = ta σ H fun x H1 => tb σ H1 fun y H2 => r x y H2 Q := rfl
theorem e_un {r : V → Hp → VK → Prop} {ta : TE} : tUn r ta σ H Q = ta σ H fun x H1 => r x H1 Q := rfl
theorem e_nil {R : List V → Hp → Prop} : tNil σ H R = R [] H := rfl
theorem e_cons {ta : TE} {tr : TA} {R : List V → Hp → Prop} : tCons ta tr σ H R = ta σ H fun x H1 => tr σ H1 fun xs H2 => R (x :: xs) H2 := rfl
theorem e_cb {r : List V → Hp → VK → Prop} {t : TA} : tCB r t σ H Q = t σ H fun vs H1 => r vs H1 Q := rfl
theorem e_call {sp : Sp} {dvs : List V} {E : XK} {t : TA} : tCall sp dvs E t σ H Q = t σ H fun vs H1 => sp (vs ++ dvs) H1 Q E := rfl
theorem e_tup {t : TA} : tTup t σ H Q = t σ H fun xs H1 => xs.length ≤ sizeLine ∧ ∀ p, H1 p = none → Q (.ref p) (upd H1 p (.tup xs)) := rfl
theorem e_lst {t : TA} : tLst t σ H Q = t σ H fun xs H1 => xs.length ≤ sizeLine ∧ ∀ p, H1 p = none → Q (.ref p) (upd H1 p (.lst xs)) := rfl
theorem e_if {t : TT} {ta tb : TE} : tIf t ta tb σ H Q = t σ H fun c H1 => if c = true then ta σ H1 Q else tb σ H1 Q := rfl
theorem e_andV {ta tb : TE} : tAndV ta tb σ H Q = ta σ H fun x H1 => ∃ c, x = .bl c ∧ if c = true then tb σ H1 Q else Q (.bl false) H1 := rfl
theorem e_orV {ta tb : TE} : tOrV ta tb σ H Q = ta σ H fun x H1 => ∃ c, x = .bl c ∧ if c = true then Q (.bl true) H1 else tb σ H1 Q := rfl
theorem e_notV {ta : TE} : tNotV ta σ H Q = ta σ H fun x H1 => ∃ c, x = .bl c ∧ Q (.bl (!c)) H1 := rfl
theorem e_chain {r r' : R2} {ta tb tc : TE} : tChain r r' ta tb tc σ H Q = ta σ H fun x H1 => tb σ H1 fun y H2 => r x y H2 fun z H3 => ∃ k, z = .bl k ∧ (if k = true then tc σ H3 fun w' H4 => r' y w' H4 Q else Q (.bl false) H3) := rfl
theorem e_test {te : TE} {R : Bool → Hp → Prop} : tTest te σ H R = te σ H fun x H1 => ∃ b, x = .bl b ∧ R b H1 := rfl
theorem e_B {te : TE} {R : Bool → Hp → Prop} : tB te σ H R = te σ H fun x H1 => ∃ b, x = .bl b ∧ R b H1 := rfl
theorem e_and {t u : TT} {R : Bool → Hp → Prop} : tAnd t u σ H R = t σ H fun c H1 => if c = true then u σ H1 R else R false H1 := rfl
theorem e_or {t u : TT} {R : Bool → Hp → Prop} : tOr t u σ H R = t σ H fun c H1 => if c = true then R true H1 else u σ H1 R := rfl
theorem e_not {t : TT} {R : Bool → Hp → Prop} : tNot t σ H R = t σ H fun c H1 => R (!c) H1 := rfl
theorem e_asg {te : TE} {g : TG} : tAsg te g D' σ H = te σ H fun v H1 => g v σ H1 D'.nx := rfl
theorem e_name {i : Nat} {v : V} {R : L2.St → Hp → Prop} : gName i v σ H R = R (σ.set i (some v)) H := rfl
theorem e_seq {t u : TS} : tSeq t u D' σ H = t { D' with nx := u D' } σ H := rfl
theorem e_next : tNext D' σ H = D'.nx σ H := rfl
theorem e_ret {te : TE} : tRet te D' σ H = te σ H D'.rt := rfl
theorem e_ifS {t : TT} {u w : TS} : tIfS t u w D' σ H = t σ H fun c H1 => if c = true then u D' σ H1 else w D' σ H1 := rfl
theorem e_drop {te : TE} : tDrop te D' σ H = te σ H fun _ H1 => D'.nx σ H1 := rfl
theorem e_part {te : TE} {R : Option Int → Hp → Prop} : tPart te σ H R = te σ H fun v H1 => ∃ i, v = .int i ∧ R (some i) H1 := rfl
theorem e_noPart {R : Option Int → Hp → Prop} : tNoPart σ H R = R none H := rfl
theorem e_sl {r : V → Option Int → Option Int → Hp → VK → Prop} {te : TE} {tl th : TO} : tSl r te tl th σ H Q = te σ H fun x H1 => tl σ H1 fun lo H2 => th σ H2 fun hi H3 => r x lo hi H3 Q := rfl
theorem e_I0 {f : Int → Int → V} {i j : Int} : rI0 f (.int i) (.int j) H Q = Q (f i j) H := by
  apply propext
  constructor
  · rintro ⟨a, b, h1, h2, q⟩
    cases h1
    cases h2
    exact q
  · exact fun q => ⟨i, j, rfl, rfl, q⟩
theorem e_I {C : Int → Int → Prop} {f : Int → Int → V} {i j : Int} : rI C f (.int i) (.int j) H Q = (C i j ∧ Q (f i j) H) := by
  apply propext
  constructor
  · rintro ⟨a, b, h1, h2, q⟩
    cases h1
    cases h2
    exact q
  · exact fun q => ⟨i, j, rfl, rfl, q⟩
theorem e_exbl {b : Bool} {R : Bool → Prop} : (∃ c, V.bl b = V.bl c ∧ R c) = R b := by
  apply propext
  constructor
  · rintro ⟨c, h, r⟩
    cases h
    exact r
  · exact fun r => ⟨b, rfl, r⟩
theorem e_exint {b : Int} {R : Int → Prop} : (∃ c, V.int b = V.int c ∧ R c) = R b := by
  apply propext
  constructor
  · rintro ⟨c, h, r⟩
    cases h
    exact r
  · exact fun r => ⟨b, rfl, r⟩
theorem e_exstr {b : Str} {R : Str → Prop} : (∃ c, V.str b = V.str c ∧ R c) = R b := by
  apply propext
  constructor
  · rintro ⟨c, h, r⟩
    cases h
    exact r
  · exact fun r => ⟨b, rfl, r⟩
theorem e_exsome {b : V} {R : V → Prop} : (∃ c, (some (some b) : Option (Option V)) = some (some c) ∧ R c) = R b := by
  apply propext
  constructor
  · rintro ⟨c, h, r⟩
    cases h
    exact r
  · exact fun r => ⟨b, rfl, r⟩
theorem e_pair {i j : Nat} {ta : TA} : tPar i j ta D' σ H = ta σ H fun vs H1 => ∃ v w, vs = [v, w] ∧ D'.nx ((σ.set i (some v)).set j (some w)) H1 := rfl
theorem e_expair {v w : V} {R : V → V → Prop} : (∃ a b, [v, w] = [a, b] ∧ R a b) = R v w := by
  apply propext
  constructor
  · rintro ⟨a, b, h, r⟩
    cases h
    exact r
  · exact fun r => ⟨v, w, rfl, r⟩
end
end U
namespace U
open PySem PySem.Spec PyProof.Rows L2
section
variable {σ : L2.St} {H : Hp} {Q : VK} {K : PySem.W.Frag}
theorem e_m1 {r : V → List V → Hp → VK → Prop} {to te : TE} : tM1 r to te σ H Q = to σ H fun x H1 => (∃ a, x = .str a) ∧ te σ H1 fun y H2 => r x [y] H2 Q := rfl
theorem e_m0 {r : V → List V → Hp → VK → Prop} {to : TE} : tM0 r to σ H Q = to σ H fun x H1 => (∃ a, x = .str a) ∧ r x [] H1 Q := rfl
theorem e_bm {T : String} {r : V → List V → Hp → VK → Prop} {to : TE} {t : TA} : tBM K T r to t σ H Q = to σ H fun x H1 => tyV K T x H1 ∧ t σ H1 fun xs H2 => r x xs H2 Q := rfl
theorem e_bm0 {T : String} {r : V → List V → Hp → VK → Prop} {to : TE} : tBM0 K T r to σ H Q = to σ H fun x H1 => tyV K T x H1 ∧ r x [] H1 Q := rfl
theorem e_fld {to : TE} {f : Str} : tFld K to f σ H Q = to σ H fun x H1 => ∃ a C dx fs v, x = .ref a ∧ H1 a = some (.ins C dx fs) ∧ Cls K C ∧ NoAttr K C f ∧ fs.lookup f = some v ∧ Q v H1 := rfl
end
end U
namespace U
open PySem PySem.Spec PyProof.Rows L2
section
variable {X : Cx} {x : Str} {pos : Pos} {a : Addr}
/-- a built-in class, a class or def of the module, as a value -/
theorem pe_bt (n : String) (hg : Gl X x) (hm : X.mg x = none) (hv : bootBuiltins x = some (.type n)) (hn : x ≠ "__name__" := by decide) (hd : (x == ("__debug__" : Str)) = false := by decide) : PE X (.Name x pos) (tC (.ty n)) :=
  pe_bltn hg hm hv rfl hn hd
theorem pe_gref (hg : Gl X x) (hm : X.mg x = some (.ref a)) (hd : (x == ("__debug__" : Str)) = false := by decide) : PE X (.Name x pos) (tC (.ref a)) := pe_glob (v := .ref a) hg hm rfl hd
end
end U
namespace U
open PySem PySem.Spec PyProof.Rows L2
section
variable {prog : Program} {w : World} {A : Around} {E : Value → Shared → Prop} {s : Shared}
theorem hint_str {x : Str} {t : Tok} {Q : Bool → Shared → Prop} (q : Q false s) : wpAny (model prog w) A (Builtin.List.listLengthHint (.str x t)) Q E s := by
  unfold Builtin.List.listLengthHint
  have ty : s.TypeIs (.str x t) "str" := rfl
  refine wpAny_bind (wpAny_specialOf ty PySem.F.str_len ?_)
  wp_delta
  refine wpAny_bind (wpAny_isInstance (v := .str x t) (T := "str") (b := true) rfl (by rw [isSubtype_type]; kernel_rfl) ?_)
  show wpAny _ A (typeOf (Value.str x t) >>= _) _ _ _
  refine wpAny_bind (wpAny_typeOf ty ?_)
  exact wpAny_pure q
/-- the signs of a text are put behind an empty list at S -/
theorem ext_str {R : Result → Shared → Prop} (hh : A.handled = none) (x : Str) (t : Tok) (S : Addr) (res : Value) (c0 : Nat) (hS : s.heap.get? S = some { cls := .type "list", data := .seq #[] c0 }) (hn : x.cps.size ≤ sizeLine)
    (hR : ∀ h' tk acc c', (∀ b o, b ≠ S → s.heap.get? b = some o → h'.get? b = some o) → h'.get? S = some { cls := .type "list", dict := none, data := .seq acc c', slots := #[] } → ItemsOf (SignAt x) acc x.cps.size → R (.ok (.ret res)) { s with heap := h', toks := tk }) :
    wpAny (model prog w) A.in1 (Builtin.List.listExtendWith (.ref S) (.str x t) res)
      (fun fin s1 => match fin with | .done f => R (.ok f) s1 | .again c1 => c1.quiet = true ∧ codeAny (model prog w) A c1 R s1) (fun e s1 => R (.error e) s1) s := by
  have hlt := Heap.lt_size hS
  unfold Builtin.List.listExtendWith
  have ty : s.TypeIs (.str x t) "str" := rfl
  refine wpAny_bind (wpAny_typeOf ty ?_)
  have n1 : Builtin.List.listSameRef (.ref S) (.str x t) = false := rfl
  have n2 : (Value.type "str" == Value.type "list") = false := by decide
  have n3 : (Value.type "str" == Value.type "tuple") = false := by decide
  simp only [n1, n2, n3, Bool.or_false, Bool.false_eq_true, if_false]
  refine wpAny_bind (wpAny_pyIter_str fun o St W hst => ?_)
  refine wpAny_bind (wpAny_holding (hint_str ?_))
  rw [if_neg (by decide)]
  have hSf : S ∉ [s.heap.objs.size] := by
    intro hm
    exact Nat.ne_of_lt hlt (List.mem_singleton.mp hm)
  have hS1 := Heap.get?_push_of_some o hS
  refine wpAny_pure ⟨plainId_quiet PySem.F.plain_extend_loop _, ?_⟩
  refine codeAny_extend_loopS (W A.in1 hh).toS hn S hSf res x.cps.size 0 _ #[] c0 rfl (Nat.zero_le _) hst hS1 (ItemsOf.nil _) ?_
  intro s1 acc c' hm hS' hacc
  rw [Moved.eq_with hm]
  refine hR s1.heap s1.toks acc c' ?_ hS' hacc
  intro b ob hb e
  refine hm.heap b ob ?_ (Heap.get?_push_of_some _ e)
  intro hmem
  rcases List.mem_cons.mp hmem with z | hmem
  · exact hb z
  · exact Nat.ne_of_lt (Heap.lt_size e) (List.mem_singleton.mp hmem)
theorem init_str {R : Result → Shared → Prop} (hh : A.handled = none) (x : Str) (t : Tok) (S : Addr) (hS : s.heap.get? S = some { cls := .type "list", data := .seq #[] }) (hn : x.cps.size ≤ sizeLine)
    (hR : ∀ h' tk acc c', (∀ b o, b ≠ S → s.heap.get? b = some o → h'.get? b = some o) → h'.get? S = some { cls := .type "list", dict := none, data := .seq acc c', slots := #[] } → ItemsOf (SignAt x) acc x.cps.size → R (.ok (.ret .none)) { s with heap := h', toks := tk }) :
    wpAny (model prog w) A.in1 (Builtin.«list.__init__» ⟨[.ref S, .str x t], []⟩)
      (fun fin s1 => match fin with | .done f => R (.ok f) s1 | .again c1 => c1.quiet = true ∧ codeAny (model prog w) A c1 R s1) (fun e s1 => R (.error e) s1) s := by
  show wpAny _ _ (do
    let old ← Builtin.List.listItems (.ref S)
    Builtin.List.listUpdate (.ref S) (fun _ => #[])
    letGo old.toList.reverse
    Builtin.List.listExtendWith (.ref S) (.str x t) .none) _ _ s
  refine wpAny_bind ?_
  unfold Builtin.List.listItems
  refine wpAny_bind (wpAny_seqItems hS rfl (wpAny_pure ?_))
  show wpAny _ _ (do
    updateSeq S (fun _ => #[])
    letGo (#[] : Array Value).toList.reverse
    Builtin.List.listExtendWith (.ref S) (.str x t) .none) _ _ s
  refine wpAny_bind (wpAny_updateSeq hS rfl ?_)
  have hS2 := Heap.get?_update_self (Obj.mapSeq (fun _ => (#[] : Array Value))) hS rfl
  refine wpAny_bind (wpAny_letGo ?_)
  refine ext_str hh x t S .none _ hS2 hn ?_
  intro h' tk acc c' hk hS' hacc
  refine hR h' tk acc c' (fun b o hb e => hk b o hb ?_) hS' hacc
  exact (Heap.get?_update_other _ _ (Ne.symm hb)).trans e
theorem list_str {Q : Value → Shared → Prop} (hh : A.handled = none) (x : Str) (t : Tok) (hn : x.cps.size ≤ sizeLine)
    (hQ : ∀ h' tk acc c', (∀ b o, s.heap.get? b = some o → h'.get? b = some o) → h'.get? s.heap.objs.size = some { cls := .type "list", dict := none, data := .seq acc c', slots := #[] } → ItemsOf (SignAt x) acc x.cps.size → Q (.ref s.heap.objs.size) { s with heap := h', toks := tk }) :
    wpAny (model prog w) A (call (.type "list") [.str x t]) Q E s := by
  refine callType_codes (Q₁ := fun obj s1 => obj = .ref s.heap.objs.size ∧ s1 = { s with heap := s.heap.push { cls := .type "list", data := .seq #[] } }) PySem.F.called_list (PySem.F.typeCall_list_1 _) PySem.F.entry_list_init (code_list_new _ ⟨rfl, rfl⟩) ?_
  rintro obj s1 ⟨rfl, rfl⟩
  have hS : (s.heap.push { cls := .type "list", data := .seq #[] }).get? s.heap.objs.size = some { cls := .type "list", data := .seq #[] } := Heap.get?_push_size _ rfl
  refine ⟨⟨_, hS, rfl⟩, PySem.F.args_list_init_2 _ _, init_str (A := A.in1) hh x t _ hS hn ?_⟩
  intro h' tk acc c' hk hS' hacc
  refine ⟨rfl, ?_⟩
  refine hQ h' tk acc c' (fun b o e => hk b o (Nat.ne_of_lt (Heap.lt_size e)) (Heap.get?_push_of_some _ e)) hS' hacc
end
/-- the signs of a text, each a text -/
def signsV (z : Str) : List V := z.cps.toList.map fun c => V.str ⟨#[c]⟩
def rListU (K : PySem.W.Frag) : List V → Hp → VK → Prop := fun xs H Q => match xs with
  | [.ref p] => ∃ ys, (SqL K H p ys ∨ SqT K H p ys) ∧ ∀ l, H l = none → Q (.ref l) (upd H l (.lst ys))
  | [.str z] => z.length ≤ sizeLine ∧ ∀ l, H l = none → Q (.ref l) (upd H l (.lst (signsV z)))
  | _ => False
theorem call_listU {X : Cx} (hc : X.calm = true := by rfl) : CallR X (.type "list") (rListU X.K) := by
  intro pins s σ H xs us Q I r h
  match xs, h with
  | [.ref p], h =>
    obtain ⟨ys, h1, q⟩ := h
    exact call_list_of pins s σ H _ us Q I r ⟨p, ys, rfl, h1, q⟩
  | [.str z], h =>
    obtain ⟨hz, q⟩ := h
    obtain ⟨u, rfl, t, rfl⟩ := vals1 r
    refine list_str (I.ok.hd hc) z t hz ?_
    intro h' tk acc c' hk hS hacc
    have hnew : H s.heap.objs.size = none := I.hok.fresh (Nat.le_refl _)
    have ob : ObjOk X.prog X.w (upd H s.heap.objs.size (.lst (signsV z))) h' s.heap.objs.size (.lst (signsV z)) := by
      refine ⟨?_, acc.toList, c', ?_, by rw [Array.toArray_toList]; exact hS⟩
      · unfold signsV
        rw [List.length_map]
        exact hz
      · refine vals_of_at ?_ ?_
        · unfold signsV
          rw [List.length_map, Array.length_toList, Array.length_toList, hacc.1]
        · intro j v u h1 h2
          rw [Array.getElem?_toList] at h2
          obtain ⟨c, tk2, hc2, rfl⟩ := hacc.2 j u h2
          unfold signsV at h1
          rw [List.getElem?_map, Array.getElem?_toList, hc2] at h1
          cases h1
          exact ⟨_, rfl⟩
    exact ⟨.ref s.heap.objs.size, _, I.laid hk (Nat.le_refl _) ob, rfl, q _ hnew⟩
def pk1_0 {α : Type} : List α → List α
  | [a, b] => [b, a]
  | l => l
def pk3_2_1_0 {α : Type} : List α → List α
  | [a, b, c, d] => [d, c, b, a]
  | l => l
def pk2_1_0 {α : Type} : List α → List α
  | [a, b, c] => [c, b, a]
  | l => l
def pk0 {α : Type} : List α → List α := fun l => l
def pk0_1 {α : Type} : List α → List α := fun l => l
end U
namespace U
open PySem PySem.Spec PyProof.Rows L2
/-- J walks n items, wherever what stood in H0 (but S) still stands; it: the item, the heap ahead of the turn and behind the draw -/
structure Src (S : Addr → Prop) (J : It) (H0 : Hp) (n : Nat) (it : Nat → V → Hp → Hp → Prop) : Prop where
  stop : ∀ H', Ext S H0 H' → J.stop n H'
  go : ∀ i H', i < n → Ext S H0 H' → J.go i H'
  yld : ∀ i H' x H2, i < n → Ext S H0 H' → J.yld i H' x H2 → it i x H' H2
section
variable {K : PySem.W.Frag} {S : Addr → Prop} {H0 : Hp} {a : Addr} {xs : List V}
theorem src_list (h : H0 a = some (.lst xs)) (n : ¬ S a) : Src S (Itl K a) H0 xs.length (fun i x H' H2 => H2 = H' ∧ xs[i]? = some x) := by
  refine ⟨fun H' e => ⟨xs, SqL.of (e _ _ n h), Nat.le_refl _⟩, fun i H' hi e => ⟨xs, xs[i], SqL.of (e _ _ n h), by simp [hi]⟩, fun i H' x H2 hi e y => ?_⟩
  obtain ⟨q, y⟩ := y
  exact ⟨q, y xs (SqL.of (e _ _ n h))⟩
theorem src_rng (lo : Int) (n : Nat) : Src S (Itr lo n) H0 n (fun i x H' H2 => H2 = H' ∧ x = .int (lo + (i : Nat))) :=
  ⟨fun _ _ => Nat.le_refl _, fun _ _ hi _ => hi, fun _ _ _ _ _ _ y => y⟩
end
/-- a comprehension: I says which data may have been gathered behind i turns -/
theorem lc_core {J : It} {H1 : Hp} {n : Nat} {it : Nat → V → Hp → Hp → Prop} {g : TG} {tt : TT} {te : TE} {vs : List Nat} {σ : L2.St} {Q : VK} {D0 : Addr} (hD : H1 D0 = none) (src : Src (fun a => a = D0) J H1 n it) (hn : n ≤ 16777216)
    (I : Nat → List D → Prop) (i0 : I 0 [])
    (step : ∀ i ds H', i < n → I i ds → Ext (fun a => a = D0) H1 H' → ∀ x H2, it i x H' H2 → ∀ (Ky : VK) (Kn : Hp → Prop), (∀ y H5 d, Same H' H5 → Dt N0 H5 y d → D.flat d = true → I (i + 1) (ds ++ [d]) → Ky y H5) → (∀ H5, Same H' H5 → I (i + 1) ds → Kn H5) →
      g x (wipe σ vs) H2 fun σ2 H3 => wipe σ2 vs = wipe σ vs ∧ tt σ2 H3 fun b H4 => if b = true then te σ2 H4 Ky else Kn H4)
    (fin : ∀ H' ds, I n ds → ds.length ≤ n → Same H1 H' → Dt N0 H' (.ref D0) (.lst ds) → Q (.ref D0) H') :
    ∃ W : Nat → Nat → Hp → Prop, (∃ m, W 0 m (upd H1 D0 (.lst []))) ∧ ∀ i m H, W i m H →
      (J.stop i H ∧ Q (.ref D0) H) ∨ (J.go i H ∧ ∃ Nx : Hp → Prop, (∀ H', Nx H' → ∃ m', m' < m ∧ W (i + 1) m' H') ∧ ∀ x H', J.yld i H x H' → g x (wipe σ vs) H' fun σ2 H2 => wipe σ2 vs = wipe σ vs ∧ tt σ2 H2 fun b H3 =>
        if b = true then te σ2 H3 fun y H4 => ∃ acc, H4 D0 = some (.lst acc) ∧ acc.length < sizeLine ∧ Nx (upd H4 D0 (.lst (acc ++ [y]))) else Nx H3) := by
  refine ⟨fun i m H => m = n - i ∧ i ≤ n ∧ Ext (fun a => a = D0) H1 H ∧ ∃ ws ds, H D0 = some (.lst ws) ∧ DtA (fun a => a = D0) H ws ds ∧ I i ds ∧ ds.length ≤ i, ⟨n, rfl, Nat.zero_le _, ?_, [], [], upd_same, .nil, i0, Nat.le_refl _⟩, ?_⟩
  · exact Ext.mut (Ext.refl _) rfl
  · rintro i m H ⟨rfl, hi, hE, ws, ds, hL, hA, hI, hlen⟩
    by_cases hlt : i < n
    · refine .inr ⟨src.go i H hlt hE, fun H' => ∃ ws ds, Ext (fun a => a = D0) H1 H' ∧ H' D0 = some (.lst ws) ∧ DtA (fun a => a = D0) H' ws ds ∧ I (i + 1) ds ∧ ds.length ≤ i + 1, ?_, ?_⟩
      · rintro H' ⟨ws', ds', hE', hL', hA', hI', hl'⟩
        exact ⟨n - (i + 1), by omega, rfl, hlt, hE', ws', ds', hL', hA', hI', hl'⟩
      · intro x H2 hy
        refine step i ds H hlt hI hE x H2 (src.yld i H x H2 hlt hE hy) _ _ ?_ ?_
        · intro y H5 d hS hd0 hfl hI'
          have hd := Dt.nl (hS _ _ hL) d hfl hd0
          refine ⟨ws, hS _ _ hL, ?_, ws ++ [y], ds ++ [d], ?_, upd_same, ?_, hI', by rw [List.length_append, List.length_singleton]; omega⟩
          · rw [hA.length]
            exact Nat.lt_of_le_of_lt hlen (Nat.lt_of_lt_of_le hlt (by rw [sizeLine_eq]; exact hn))
          · exact Ext.mut (hE.trans (Ext.of hS)) rfl
          · have z : DtA (fun a => a = D0) H5 (ws ++ [y]) (ds ++ [d]) := (hA.sm hS).snoc hd
            exact z.go (Ext.mut (Ext.refl _) rfl)
        · intro H5 hS hI'
          exact ⟨ws, ds, hE.trans (Ext.of hS), hS _ _ hL, hA.sm hS, hI', by omega⟩
    · have e : i = n := by omega
      subst e
      refine .inl ⟨src.stop H hE, fin H ds hI hlen (hE.same hD) ?_⟩
      exact .lst (fun z => z) hL hA.n0
/-- the step of a comprehension -/
abbrev LcStep (H1 : Hp) (D0 : Addr) (n : Nat) (it : Nat → V → Hp → Hp → Prop) (I : Nat → List D → Prop) (g : TG) (tt : TT) (te : TE) (vs : List Nat) (σ : L2.St) : Prop :=
  ∀ i ds H', i < n → I i ds → Ext (fun a => a = D0) H1 H' → ∀ x H2, it i x H' H2 → ∀ (Ky : VK) (Kn : Hp → Prop), (∀ y H5 d, Same H' H5 → Dt N0 H5 y d → D.flat d = true → I (i + 1) (ds ++ [d]) → Ky y H5) → (∀ H5, Same H' H5 → I (i + 1) ds → Kn H5) →
      g x (wipe σ vs) H2 fun σ2 H3 => wipe σ2 vs = wipe σ vs ∧ tt σ2 H3 fun b H4 => if b = true then te σ2 H4 Ky else Kn H4
abbrev LcFin (H1 : Hp) (D0 : Addr) (n : Nat) (I : Nat → List D → Prop) (Q : VK) : Prop := ∀ H' ds, I n ds → ds.length ≤ n → Same H1 H' → Dt N0 H' (.ref D0) (.lst ds) → Q (.ref D0) H'
/-- a comprehension that walks J -/
def LcOn (J : It) (g : TG) (tt : TT) (te : TE) (vs : List Nat) (σ : L2.St) (Q : VK) (H1 : Hp) : Prop := ∀ D, H1 D = none → ∃ W : Nat → Nat → Hp → Prop, (∃ m, W 0 m (upd H1 D (.lst []))) ∧ ∀ i m H, W i m H →
  (J.stop i H ∧ Q (.ref D) H) ∨ (J.go i H ∧ ∃ Nx : Hp → Prop, (∀ H', Nx H' → ∃ m', m' < m ∧ W (i + 1) m' H') ∧ ∀ x H', J.yld i H x H' → g x (wipe σ vs) H' fun σ2 H2 => wipe σ2 vs = wipe σ vs ∧ tt σ2 H2 fun b H3 =>
    if b = true then te σ2 H3 fun y H4 => ∃ acc, H4 D = some (.lst acc) ∧ acc.length < sizeLine ∧ Nx (upd H4 D (.lst (acc ++ [y]))) else Nx H3)
def rLcL (K : PySem.W.Frag) (g : TG) (tt : TT) (te : TE) (vs : List Nat) (σ : L2.St) (Q : VK) (x : V) (H1 : Hp) : Prop := ∃ a, x = .ref a ∧ (∃ xs, SqL K H1 a xs) ∧ LcOn (Itl K a) g tt te vs σ Q H1
def rLcT (K : PySem.W.Frag) (g : TG) (tt : TT) (te : TE) (vs : List Nat) (σ : L2.St) (Q : VK) (x : V) (H1 : Hp) : Prop := ∃ a, x = .ref a ∧ (∃ xs, SqT K H1 a xs) ∧ LcOn (Itt K a) g tt te vs σ Q H1
def rLcS (g : TG) (tt : TT) (te : TE) (vs : List Nat) (σ : L2.St) (Q : VK) (x : V) (H1 : Hp) : Prop := ∃ z, x = .str z ∧ LcOn (Its z) g tt te vs σ Q H1
def rLcR (g : TG) (tt : TT) (te : TE) (vs : List Nat) (σ : L2.St) (Q : VK) (x : List V) (H1 : Hp) : Prop := ∃ j : Int, x = [.int j] ∧ -(2 ^ 62) ≤ j ∧ j < 2 ^ 62 ∧ LcOn (Itr 0 j.toNat) g tt te vs σ Q H1
def rLcR2 (g : TG) (tt : TT) (te : TE) (vs : List Nat) (σ : L2.St) (Q : VK) (x : List V) (H1 : Hp) : Prop := ∃ i j : Int, x = [.int i, .int j] ∧ (-(2 ^ 62) ≤ i ∧ i < 2 ^ 62 ∧ -(2 ^ 62) ≤ j ∧ j < 2 ^ 62) ∧ LcOn (Itr i (j - i).toNat) g tt te vs σ Q H1
section
variable {K : PySem.W.Frag} {H H1 : Hp} {a : Addr} {xs : List V} {g : TG} {tt : TT} {te tl : TE} {vs : List Nat} {σ : L2.St} {Q : VK} {ta : TA}
theorem e_lcL : tLc (iList K tl) g tt te vs σ H Q = tl σ H fun x H1 => rLcL K g tt te vs σ Q x H1 := rfl
theorem e_lcT : tLc (iTup K tl) g tt te vs σ H Q = tl σ H fun x H1 => rLcT K g tt te vs σ Q x H1 := rfl
theorem e_lcS : tLc (iStr tl) g tt te vs σ H Q = tl σ H fun x H1 => rLcS g tt te vs σ Q x H1 := rfl
theorem e_lcR : tLc (iRng1 ta) g tt te vs σ H Q = ta σ H fun x H1 => rLcR g tt te vs σ Q x H1 := rfl
theorem e_lcR2 : tLc (iRng2 ta) g tt te vs σ H Q = ta σ H fun x H1 => rLcR2 g tt te vs σ Q x H1 := rfl
theorem lcR {n : Int} (hn : n ≤ 16777216) (hn0 : -16777216 ≤ n) (I : Nat → List D → Prop) (i0 : I 0 [])
    (step : ∀ D0, H1 D0 = none → LcStep H1 D0 n.toNat (fun i x H' H2 => H2 = H' ∧ x = .int (i : Nat)) I g tt te vs σ) (fin : ∀ D0, H1 D0 = none → LcFin H1 D0 n.toNat I Q) : rLcR g tt te vs σ Q [.int n] H1 := by
  refine ⟨n, rfl, by omega, by omega, fun D0 hD => lc_core hD (src_rng 0 n.toNat) (by omega) I i0 ?_ (fin D0 hD)⟩
  rintro i ds H' hi hI hE x H2 ⟨e1, e2⟩
  exact step D0 hD i ds H' hi hI hE x H2 ⟨e1, by rw [e2, Int.zero_add]⟩
end
theorem for_core {J : It} {H1 : Hp} {n : Nat} {it : Nat → V → Hp → Hp → Prop} {S : Addr → Prop} {g : TG} {tb : TS} {σ : L2.St} {D0 : Ends} (src : Src S J H1 n it)
    (I : Nat → L2.St → Hp → Prop) (i0 : I 0 σ H1) (stay : ∀ i σ' H', I i σ' H' → Ext S H1 H')
    (step : ∀ i σ' H', i < n → I i σ' H' → ∀ x H2, it i x H' H2 → g x σ' H2 fun σ2 H3 => tb { D0 with nx := I (i + 1), ct := I (i + 1), bk := D0.nx } σ2 H3)
    (fin : ∀ σ' H', I n σ' H' → D0.nx σ' H') :
    ∃ W : Nat → Nat → L2.St → Hp → Prop, (∃ m, W 0 m σ H1) ∧ ∀ i m σ H, W i m σ H →
      (J.stop i H ∧ D0.nx σ H) ∨ (J.go i H ∧ ∃ N : L2.St → Hp → Prop, (∀ σ' H', N σ' H' → ∃ m', m' < m ∧ W (i + 1) m' σ' H') ∧ ∀ x H', J.yld i H x H' → g x σ H' fun σ2 H2 => tb { D0 with nx := N, ct := N, bk := D0.nx } σ2 H2) := by
  refine ⟨fun i m σ' H' => m = n - i ∧ i ≤ n ∧ I i σ' H', ⟨n, rfl, Nat.zero_le _, i0⟩, ?_⟩
  rintro i m σ' H' ⟨rfl, hi, hI⟩
  by_cases hlt : i < n
  · refine .inr ⟨src.go i H' hlt (stay _ _ _ hI), I (i + 1), fun σ2 H2 q => ⟨n - (i + 1), by omega, rfl, hlt, q⟩, fun x H2 y => ?_⟩
    exact step i σ' H' hlt hI x H2 (src.yld i H' x H2 hlt (stay _ _ _ hI) y)
  · have e : i = n := by omega
    subst e
    exact .inl ⟨src.stop H' (stay _ _ _ hI), fin σ' H' hI⟩
/-- a loop that walks J -/
def ForOn (J : It) (g : TG) (tb : TS) (D0 : Ends) (σ : L2.St) (H1 : Hp) : Prop := ∃ W : Nat → Nat → L2.St → Hp → Prop, (∃ m, W 0 m σ H1) ∧ ∀ i m σ H, W i m σ H →
  (J.stop i H ∧ D0.nx σ H) ∨ (J.go i H ∧ ∃ N : L2.St → Hp → Prop, (∀ σ' H', N σ' H' → ∃ m', m' < m ∧ W (i + 1) m' σ' H') ∧ ∀ x H', J.yld i H x H' → g x σ H' fun σ2 H2 => tb { D0 with nx := N, ct := N, bk := D0.nx } σ2 H2)
def rForL (K : PySem.W.Frag) (g : TG) (tb : TS) (D0 : Ends) (σ : L2.St) (x : V) (H1 : Hp) : Prop := ∃ a, x = .ref a ∧ (∃ xs, SqL K H1 a xs) ∧ ForOn (Itl K a) g tb D0 σ H1
def rForT (K : PySem.W.Frag) (g : TG) (tb : TS) (D0 : Ends) (σ : L2.St) (x : V) (H1 : Hp) : Prop := ∃ a, x = .ref a ∧ (∃ xs, SqT K H1 a xs) ∧ ForOn (Itt K a) g tb D0 σ H1
def rForR (g : TG) (tb : TS) (D0 : Ends) (σ : L2.St) (x : List V) (H1 : Hp) : Prop := ∃ j : Int, x = [.int j] ∧ -(2 ^ 62) ≤ j ∧ j < 2 ^ 62 ∧ ForOn (Itr 0 j.toNat) g tb D0 σ H1
def rForR2 (g : TG) (tb : TS) (D0 : Ends) (σ : L2.St) (x : List V) (H1 : Hp) : Prop := ∃ i j : Int, x = [.int i, .int j] ∧ (-(2 ^ 62) ≤ i ∧ i < 2 ^ 62 ∧ -(2 ^ 62) ≤ j ∧ j < 2 ^ 62) ∧ ForOn (Itr i (j - i).toNat) g tb D0 σ H1
section
variable {K : PySem.W.Frag} {S : Addr → Prop} {H H1 : Hp} {a : Addr} {xs : List V} {g : TG} {tb : TS} {tl : TE} {σ : L2.St} {D0 : Ends} {ta : TA}
theorem e_forL : tFor (iList K tl) g tb D0 σ H = tl σ H fun x H1 => rForL K g tb D0 σ x H1 := rfl
theorem e_forT : tFor (iTup K tl) g tb D0 σ H = tl σ H fun x H1 => rForT K g tb D0 σ x H1 := rfl
theorem e_forR : tFor (iRng1 ta) g tb D0 σ H = ta σ H fun x H1 => rForR g tb D0 σ x H1 := rfl
theorem e_forR2 : tFor (iRng2 ta) g tb D0 σ H = ta σ H fun x H1 => rForR2 g tb D0 σ x H1 := rfl
theorem forL (h : H1 a = some (.lst xs)) (hS : ¬ S a) (I : Nat → L2.St → Hp → Prop) (i0 : I 0 σ H1) (stay : ∀ i σ' H', I i σ' H' → Ext S H1 H')
    (step : ∀ i x σ' H', xs[i]? = some x → I i σ' H' → g x σ' H' fun σ2 H3 => tb { D0 with nx := I (i + 1), ct := I (i + 1), bk := D0.nx } σ2 H3) (fin : ∀ σ' H', I xs.length σ' H' → D0.nx σ' H') : rForL K g tb D0 σ (.ref a) H1 :=
  ⟨a, rfl, ⟨xs, SqL.of h⟩, for_core (src_list h hS) I i0 stay (fun i σ' H' _ hI x H2 y => by obtain ⟨rfl, y⟩ := y; exact step i x σ' _ y hI) fin⟩
end
end U
namespace U
open PySem PySem.Spec PyProof.Rows L2
/-- the text of one sign; of codes -/
def one (c : Nat) : Str := ⟨#[c]⟩
def ofL (l : List Nat) : Str := ⟨l.toArray⟩
def cd (z : Str) : List Nat := z.cps.toList
theorem cd_ofL (l : List Nat) : cd (ofL l) = l := rfl
theorem cd_len (z : Str) : (cd z).length = z.length := by
  unfold cd
  rw [Array.length_toList]
  rfl
theorem cd_size (z : Str) : z.cps.size = (cd z).length := by
  unfold cd
  rw [Array.length_toList]
def sgn (c : Nat) : D := .str (one c)
def SIGNS : Str := PySem.Str.ofString ".0123456789abcdefghijklmnopqrstuvwxyz~"
def signs : List Nat := cd SIGNS
def isSign (c : Nat) : Bool := decide (c ∈ signs)
/-- a text of at most n signs -/
def okText (n : Nat) (z : Str) : Bool := decide (z.length ≤ n) && (cd z).all isSign
theorem okText_iff {n : Nat} {z : Str} : okText n z = true ↔ z.length ≤ n ∧ ∀ c ∈ cd z, c ∈ signs := by
  unfold okText isSign
  rw [Bool.and_eq_true, List.all_eq_true]
  simp
structure Sh where
  limit : Nat
  head : Nat
  tail : Nat
  mark : Str
def Sh.ok (s : Sh) : Prop := s.limit ≤ 40 ∧ s.head ≤ 40 ∧ s.tail ≤ 40 ∧ okText 3 s.mark = true
/-- what a shortener leaves of a list; f: how a sign of the mark stands there -/
def cutP {α : Type} (f : Nat → α) (s : Sh) (xs : List α) : List α :=
  if xs.length ≤ s.limit then xs else xs.take s.head ++ (cd s.mark).map f ++ xs.drop (xs.length - s.tail)
def cutR {α : Type} (f : Nat → α) (row : List Sh) (xs : List α) : List α := row.foldl (fun ys s => cutP f s ys) xs
theorem cutR_cons {α : Type} (f : Nat → α) (s : Sh) (row : List Sh) (xs : List α) : cutR f (s :: row) xs = cutR f row (cutP f s xs) := rfl
theorem cutR_snoc {α : Type} (f : Nat → α) (s : Sh) (row : List Sh) (xs : List α) : cutR f (row ++ [s]) xs = cutP f s (cutR f row xs) := by
  unfold cutR
  rw [List.foldl_append]
  rfl
theorem cutP_map {α β : Type} (f : Nat → α) (g : α → β) (s : Sh) (xs : List α) : cutP (fun c => g (f c)) s (xs.map g) = (cutP f s xs).map g := by
  unfold cutP
  rw [List.length_map]
  split
  · rfl
  · rw [List.map_append, List.map_append, List.map_take, List.map_drop, List.map_map]
    rfl
theorem cutR_map {α β : Type} (f : Nat → α) (g : α → β) : ∀ (row : List Sh) (xs : List α), cutR (fun c => g (f c)) row (xs.map g) = (cutR f row xs).map g
  | [], _ => rfl
  | s :: row, xs => by
    rw [cutR_cons, cutR_cons, cutP_map, cutR_map f g row]
/-- what a row shows of a text -/
def showC (row : List Sh) (l : List Nat) : List Nat := cutR id row l
def showS (row : List Sh) (z : Str) : Str := ofL (showC row (cd z))
theorem cutR_sgn (row : List Sh) (l : List Nat) : cutR sgn row (l.map sgn) = (showC row l).map sgn := cutR_map id sgn row l
/-- no more than the limit, or than head, mark and tail together -/
theorem cutP_le {α : Type} (f : Nat → α) {s : Sh} (h : s.ok) (xs : List α) : (cutP f s xs).length ≤ 83 ∨ (cutP f s xs).length ≤ 40 := by
  obtain ⟨h1, h2, h3, h4⟩ := h
  have h5 := (okText_iff.mp h4).1
  left
  unfold cutP
  split
  · omega
  · rw [List.length_append, List.length_append, List.length_map, cd_len, List.length_take, List.length_drop]
    omega
theorem cutP_le83 {α : Type} (f : Nat → α) {s : Sh} (h : s.ok) (xs : List α) : (cutP f s xs).length ≤ 83 := by
  rcases cutP_le f h xs with z | z <;> omega
theorem cutR_le {α : Type} (f : Nat → α) : ∀ {row : List Sh} (_ : ∀ s ∈ row, s.ok) (xs : List α) {n : Nat}, xs.length ≤ n → 83 ≤ n → (cutR f row xs).length ≤ n
  | [], _, xs, n, h, _ => h
  | s :: row, hr, xs, n, _, h2 => by
    rw [cutR_cons]
    exact cutR_le f (fun t ht => hr t (List.mem_cons_of_mem _ ht)) _ (Nat.le_trans (cutP_le83 f (hr s List.mem_cons_self) xs) h2) h2
theorem cutP_all {α : Type} {f : Nat → α} {s : Sh} {P : α → Prop} (hm : ∀ c ∈ cd s.mark, P (f c)) {xs : List α} (hx : ∀ x ∈ xs, P x) : ∀ x ∈ cutP f s xs, P x := by
  intro x h
  unfold cutP at h
  split at h
  · exact hx x h
  · rcases List.mem_append.mp h with h | h
    · rcases List.mem_append.mp h with h | h
      · exact hx x (List.mem_of_mem_take h)
      · obtain ⟨c, hc, rfl⟩ := List.mem_map.mp h
        exact hm c hc
    · exact hx x (List.mem_of_mem_drop h)
theorem cutR_all {α : Type} {f : Nat → α} {P : α → Prop} : ∀ {row : List Sh} (_ : ∀ s ∈ row, ∀ c ∈ cd s.mark, P (f c)) {xs : List α} (_ : ∀ x ∈ xs, P x), ∀ x ∈ cutR f row xs, P x
  | [], _, _, hx => hx
  | s :: row, hm, xs, hx => by
    rw [cutR_cons]
    exact cutR_all (fun t ht => hm t (List.mem_cons_of_mem _ ht)) (cutP_all (hm s List.mem_cons_self) hx)
def toldD (s : Sh) : D := .tup [.int s.limit, .int s.head, .int s.tail, .str s.mark]
def shNs : List Str := ["limit", "head", "tail", "mark", "told"]
def shD (C : Addr) (s : Sh) : D := .ins C shNs [.int s.limit, .int s.head, .int s.tail, .str s.mark, toldD s]
def rowD (C : Addr) (row : List Sh) : D := .tup (row.map (shD C))
theorem dt_signs {S : Addr → Prop} {H : Hp} : ∀ l : List Nat, DtA S H (l.map fun c => V.str (one c)) (l.map sgn)
  | [] => .nil
  | c :: l => .cons (.str _) (dt_signs l)
theorem dt_signsV {S : Addr → Prop} {H : Hp} (z : Str) : DtA S H (signsV z) ((cd z).map sgn) := dt_signs (cd z)
/-- a list at an address, a tuple -/
theorem dt_lst {S : Addr → Prop} {H : Hp} {v : V} {ds : List D} (h : Dt S H v (.lst ds)) : ∃ a xs, v = .ref a ∧ ¬ S a ∧ H a = some (.lst xs) ∧ DtA S H xs ds := by
  cases h with
  | lst n ha hs => exact ⟨_, _, rfl, n, ha, hs⟩
theorem join_one1 (l : List Nat) : Txt.join (PySem.Str.ofString "") (l.map one) = ofL l := by
  have e := SX.join_S [] (l.map fun c => [c])
  rw [List.map_map] at e
  have e1 : SX.S [] = PySem.Str.ofString "" := rfl
  have e2 : (SX.S ∘ fun c => [c]) = one := rfl
  rw [e1, e2] at e
  rw [e]
  have h : ∀ l : List Nat, TL.joinL [] (l.map fun c => [c]) = l := by
    intro l
    induction l with
    | nil => rfl
    | cons c r ih =>
      cases r with
      | nil => rfl
      | cons d t =>
        show [c] ++ [] ++ TL.joinL [] ((d :: t).map fun c => [c]) = c :: d :: t
        rw [ih]
        rfl
  rw [h]
  rfl
end U
namespace U
open PySem PySem.Spec PyProof.Rows L2 StX
section
variable {X : Cx} {K : PySem.W.Frag} {e o a b : Expr} {te to : TE} {tg : Expr} {ta : TA}
theorem op_inK (h : X.K = K) : OpR X (compareOp .In) (rInU K) := by subst h; exact op_inU
theorem ix_K (h : X.K = K) : IxR X (rIxU K) := by subst h; exact ix_U
theorem sl_K (h : X.K = K) : SlR X (rSlU K) := by subst h; exact sl_U
theorem call_lenK (h : X.K = K) : CallR X (.builtin "len") (rLenU K) := by subst h; exact call_lenU
theorem call_listK (h : X.K = K) (hc : X.calm = true) : CallR X (.type "list") (rListU K) := by subst h; exact call_listU hc
theorem call_isiK (h : X.K = K) : CallR X (.builtin "isinstance") (rIsi K) := by subst h; exact call_isi
theorem cr_allK (h : X.K = K) (hc : X.calm = true) : CallR X (.builtin "all") (rAll K) := by subst h; exact cr_all hc
theorem cr_maxK (h : X.K = K) (hc : X.calm = true) : CallR X (.builtin "max") (rMax K) := by subst h; exact cr_max hc
theorem pe_fldK (h : X.K = K) {f : Str} {pos : Pos} (he : PE X e te) (hb : attributeBase e f X.env (eval e X.env) = eval e X.env := by rfl) : PE X (.Attribute e f pos) (tFld K te f) := by subst h; exact pe_fld he hb
theorem pi_listK (h : X.K = K) (he : PE X e te) : PI X tg e (iList K te) := by subst h; exact pi_list he
theorem pi_tupK (h : X.K = K) (he : PE X e te) : PI X tg e (iTup K te) := by subst h; exact pi_tup he
theorem pa_starK (h : X.K = K) {es : List Expr} {t : TA} {p : Pos} (he : PE X e te) (hr : PA X es t) (hs : starEach (.Starred e p :: es) X.env = (true, eval e X.env) :: starEach es X.env := by rfl) : PA X (.Starred e p :: es) (tStar K te t) := by subst h; exact pa_star he hr hs
/-- '..'.join(xs) -/
def rJoin (K : PySem.W.Frag) : V → List V → Hp → VK → Prop := fun x xs H Q => ∃ a p, ∃ ys : List Str, x = .str a ∧ xs = [.ref p] ∧ (SqL K H p (ys.map V.str) ∨ SqT K H p (ys.map V.str)) ∧ (ys.map (·.length)).sum + ys.length * a.length ≤ 16777216 ∧ Q (.str (Txt.join a ys)) H
theorem pe_joinK (h : X.K = K) {apos pos : Pos} (ho : PE X o to) (he : PE X e te) (hs : starEach [e] X.env = [(false, eval e X.env)] := by rfl) (hbase : attributeBase o "join" X.env (eval o X.env) = eval o X.env := by rfl) (hline : (apos.endLine == pos.line) = true := by rfl) :
    PE X (.Call (.Attribute o "join" apos) [e] [] pos) (tM1 (rJoin K) to te) := by subst h; exact pe_join ho he hs hbase hline
/-- tuple(xs) -/
theorem pe_tupOfK (h : X.K = K) {p pos : Pos} (hg : Gl X "tuple") (hm : X.mg "tuple" = none) (he : PE X e te) (na : starEach [e] X.env = (false, eval e X.env) :: starEach [] X.env := by rfl) : PE X (.Call (.Name "tuple" p) [e] [] pos) (tThen te (kTup K)) := by
  subst h
  exact pe_tupleOf hg hm he na
theorem e_then {σ : L2.St} {H : Hp} {Q : VK} {k : V → Hp → VK → Prop} : tThen te k σ H Q = te σ H fun x H1 => k x H1 Q := rfl
theorem e_star {σ : L2.St} {H : Hp} {Q : List V → Hp → Prop} {t : TA} : tStar K te t σ H Q = te σ H fun x H1 => ∃ p xs, x = V.ref p ∧ (SqT K H1 p xs ∨ SqL K H1 p xs) ∧ t σ H1 fun ys H2 => Q (xs ++ ys) H2 := rfl
end
end U
namespace U
open PySem PySem.Spec PyProof.Rows L2
theorem e_yes {σ : L2.St} {H : Hp} {R : Bool → Hp → Prop} : tYes σ H R = R true H := rfl
end U
namespace U
theorem take_snoc {α : Type} {l : List α} {i : Nat} {c : α} (h : l[i]? = some c) : l.take (i + 1) = l.take i ++ [c] := by
  rw [List.take_add_one, h]
  rfl
theorem cd_get {z : PySem.Str} {i c : Nat} (h : z.cps[i]? = some c) : (cd z)[i]? = some c := by
  unfold cd
  rw [Array.getElem?_toList]
  exact h
end U
namespace U
open PySem PySem.Spec PyProof.Rows L2
theorem e_sfld {σ : L2.St} {H : Hp} {D0 : Ends} {K : PySem.W.Frag} {ta tv : TE} {f : Str} : sFld K ta tv f D0 σ H = tv σ H fun y H1 => ta σ H1 fun x H2 => ∃ a C dx fs, x = .ref a ∧ H2 a = some (.ins C dx fs) ∧ Cls K C ∧ NoAttr K C f ∧ fs.length < 1000 ∧ D0.nx σ (upd H2 a (.ins C dx (putF f y fs))) := rfl
end U
namespace U
open PySem PySem.Spec PyProof.Rows L2
section
variable {σ : L2.St} {H : Hp} {R : L2.St → Hp → Prop} {K : PySem.W.Frag}
theorem e_gcons {t : TG} {u : TGs} {x : V} {r : List V} : gCons t u (x :: r) σ H R = t x σ H fun σ1 H1 => u r σ1 H1 R := by
  apply propext
  constructor
  · rintro ⟨v, l, h, q⟩
    cases h
    exact q
  · exact fun q => ⟨x, r, rfl, q⟩
theorem e_gnil : gNil [] σ H R = R σ H := by
  apply propext
  exact ⟨fun q => q.2, fun q => ⟨rfl, q⟩⟩
theorem e_gtup {n : Nat} {t : TGs} {v : V} : gTup K n t v σ H R = ∃ a xs, v = .ref a ∧ SqT K H a xs ∧ xs.length = n ∧ t xs σ H R := rfl
theorem e_gsub {to ti : TE} {t : TSet} {v : V} : gSub to ti t v σ H R = to σ H fun o H1 => ti σ H1 fun i H2 => t o i v H2 fun H3 => R σ H3 := rfl
theorem pg_tupK {X : Cx} (h : X.K = K) {es : List Expr} {k : Nat} {pos : Pos} {t : TGs} {n : Nat} (hc : X.calm = true) (ht : PGs X es t) (hn : (assignEach es X.env).length = n := by rfl) (hst : (assignEach es X.env).findIdx? (·.1) = none := by rfl) : PG X (.Tuple es k pos) (gTup K n t) := by
  subst h
  exact pg_tup hc ht hn hst
end
end U
namespace U
open PySem PySem.Spec PyProof.Rows L2
section
variable {σ : L2.St} {H : Hp} {Q : VK} {K : PySem.W.Frag}
theorem e_make {C : Addr} {sp : Sp} {dvs : List V} {E : XK} {t : TA} : tMake C sp dvs E t σ H Q = t σ H fun vs H1 => ∀ x dx, H1 x = none → H1 dx = none → dx ≠ x → sp (.ref x :: (vs ++ dvs)) (upd (upd H1 dx (.own x)) x (.ins C dx [])) (fun v H2 => v = .non ∧ Q (.ref x) H2) E := rfl
theorem e_makeK {C : Addr} {n m : Nat} {sp : Sp} {gV : List V → List V → List V} {E : XK} {t tk : TA} : tMakeK C n m sp gV E t tk σ H Q = t σ H fun vs H1 => tk σ H1 fun zs H2 => vs.length = n ∧ zs.length = m ∧ ∀ x dx, H2 x = none → H2 dx = none → dx ≠ x →
  sp (gV (.ref x :: vs) zs) (upd (upd H2 dx (.own x)) x (.ins C dx [])) (fun v H3 => v = .non ∧ Q (.ref x) H3) E := rfl
theorem e_callN {n m : Nat} {sp : Sp} {gV : List V → List V → List V} {E : XK} {t tk : TA} : tCallN n m sp gV E t tk σ H Q = t σ H fun vs H1 => tk σ H1 fun zs H2 => vs.length = n ∧ zs.length = m ∧ sp (gV vs zs) H2 Q E := rfl
theorem e_meth {C : Addr} {m : Str} {sp : Sp} {dvs : List V} {E : XK} {ta : TE} {t : TA} : tMeth C m sp dvs E ta t σ H Q = ta σ H fun x H1 => ∃ a dx fs, x = .ref a ∧ H1 a = some (.ins C dx fs) ∧ fs.lookup m = none ∧ t σ H1 fun vs H2 => sp (x :: (vs ++ dvs)) H2 Q E := rfl
theorem e_kTup {p : Addr} : kTup K (.ref p) H Q = ((∃ xs, SqL K H p xs ∧ ∀ q, H q = none → Q (.ref q) (upd H q (.tup xs))) ∨ (∃ xs, SqT K H p xs ∧ Q (.ref p) H)) := by
  apply propext
  unfold kTup
  constructor
  · rintro (⟨q, xs, h, r⟩ | ⟨q, xs, h, r⟩)
    · cases h
      exact .inl ⟨xs, r⟩
    · cases h
      exact .inr ⟨xs, r⟩
  · rintro (⟨xs, r⟩ | ⟨xs, r⟩)
    · exact .inl ⟨p, xs, rfl, r⟩
    · exact .inr ⟨p, xs, rfl, r⟩
end
end U
namespace U
open PySem PySem.Spec PyProof.Rows L2
set_option maxHeartbeats 8000000 in
theorem meets_enum1 {v : Value} {o : Obj} {W : Heap → Prop} (B : Begins v o W) :
    Meets (Builtin.«enumerate.__new__» ⟨[.type "enumerate", v], []⟩) (fun _ R s => W s.heap ∧
      R (.ok (.ret (.ref (s.heap.push o).objs.size))) { s with heap := (s.heap.push o).push { cls := .type "enumerate", data := .fields #[.none, .bool false, .ref s.heap.objs.size, rawInt 0, .none, .none] } }) :=
  .of_wp fun prog w A R s h => by
    obtain ⟨hp, g, d, tk, os⟩ := s
    obtain ⟨h1, h⟩ := h
    have q1 : ∀ {A' : Around} {E : Value → Shared → Prop} {Q : Value → Shared → Prop}, Q (.ref hp.objs.size) ⟨hp.push o, g, d, tk, os⟩ → wpAny (model prog w) A' (pyIter v) Q E ⟨hp, g, d, tk, os⟩ :=
      fun q => B.iter prog w _ _ ⟨hp, g, d, tk, os⟩ _ h1 q
    have hsub := sub_enumerate
    wp_walk using q1
    refine wpAny_stack_any (fun st => wpAny_pure ?_)
    split
    · rename_i c _ _ _ _ _
      cases (c == Value.type "enumerate") <;> (wp_walk using q1; exact ⟨_, rfl, h⟩)
    · wp_walk using q1
      exact ⟨_, rfl, h⟩
def enO (it : Addr) : Obj := { cls := .type "enumerate", data := .fields #[.none, .bool false, .ref it, rawInt 0, .none, .none] }
theorem call_enum1 {prog : Program} {w : World} {A : Around} {E : Value → Shared → Prop} {s : Shared} {v : Value} {o : Obj} {W : Heap → Prop} {Q : Value → Shared → Prop} (B : Begins v o W) (h1 : W s.heap)
    (q : ∀ h', IsEnum h' (s.heap.objs.size + 1) s.heap.objs.size 0 .none → h'.get? s.heap.objs.size = some o → (∀ b u, s.heap.get? b = some u → h'.get? b = some u) → Q (.ref (s.heap.objs.size + 1)) { s with heap := h' }) :
    wpAny (model prog w) A (call (.type "enumerate") [v]) Q E s := by
  refine callType_new F.called_enumerate (by decide) (F.typeCall_enumerate_1 _) (F.newCall_enumerate_1 _) (fun obj => F.args_object_init_2 obj _) F.entry_enumerate_new (meets_enum1 B) ⟨h1, ?_⟩
  have sz : (s.heap.push o).objs.size = s.heap.objs.size + 1 := Heap.size_push ..
  have en : ((s.heap.push o).push (enO s.heap.objs.size)).get? (s.heap.objs.size + 1) = some (enO s.heap.objs.size) := by
    have z := Heap.get?_push_size (s.heap.push o) (o := enO s.heap.objs.size) rfl
    rw [sz] at z
    exact z
  show _ ∧ _
  rw [sz]
  exact ⟨⟨_, en, rfl⟩, q _ en (Heap.get?_push_of_some _ (Heap.get?_push_size _ B.free)) (fun b u e => Heap.get?_push_of_some _ (Heap.get?_push_of_some _ e))⟩
/-- the tuple at a as it stands at each turn, place and item in a new pair -/
def IteT (K : PySem.W.Frag) (a : Addr) : It where
  go i H := ∃ (xs : List V) (x : V), SqT K H a xs ∧ xs[i]? = some x
  yld i H v H' := ∃ T x, v = .ref T ∧ H T = none ∧ H' = upd H T (.tup [.int (i : Nat), x]) ∧ ∀ xs, SqT K H a xs → xs[i]? = some x
  stop i H := ∃ xs : List V, SqT K H a xs ∧ xs.length = i
theorem turn_enumT {P : Program} {w : World} {K : PySem.W.Frag} {elts : List Expr} {kk : Nat} {tpos : Pos} (a e it : Addr) (ha : a ≠ it) (hae : e ≠ a) (hei : e ≠ it) :
    Turn P w K (.Tuple elts kk tpos) (IteT K a) [e, it] e (fun i h => (∃ old, IsEnum h e it ((i : Nat) : Int) old) ∧ h.IsTupleIter it a i) where
  mem := List.mem_cons_self
  obj := fun i h st b hb => by
    obtain ⟨⟨old, he⟩, o, ho, hc, hd⟩ := st
    rcases List.mem_cons.mp hb with z | z
    · exact ⟨_, by rw [z]; exact he, fun v q => by cases q⟩
    · have z' : b = it := List.mem_singleton.mp z
      exact ⟨o, by rw [z']; exact ho, fun v q => by rw [hd] at q; cases q⟩
  keep := fun i h h' st k => by
    obtain ⟨⟨old, he⟩, hi⟩ := st
    exact ⟨⟨old, k e List.mem_cons_self _ he⟩, hi.at fun o q => k it (List.mem_cons_of_mem _ List.mem_cons_self) o q⟩
  item := by
    intro X hP hw hK hc i pins s σ H E I hf st hg
    subst hP hw hK
    obtain ⟨⟨old, he⟩, hit⟩ := st
    obtain ⟨xs, x, hq, hx⟩ := hg
    obtain ⟨its, rv, p, hz⟩ := I.tuple hq
    obtain ⟨u, hu, ru⟩ := rv.get hx
    have tp : s.heap.IsTuple a its.toArray := p
    have lt1 : e < s.heap.objs.size := Heap.lt_size he
    have lt2 : it < s.heap.objs.size := by
      obtain ⟨_, q, _⟩ := hit
      exact Heap.lt_size q
    have hu2 : its.toArray[i]? = some u := by simpa using hu
    have hlt : i < its.toArray.size := by
      rcases Nat.lt_or_ge i its.toArray.size with z | z
      · exact z
      · rw [Array.getElem?_eq_none z] at hu2
        cases hu2
    have D := Draws.tuple (prog := X.prog) (w := X.w) (A := X.A.in1) (I.ok.hd hc) it a ha its.toArray
    refine wpAny_pyNext_enum_itemD D he ⟨hit, tp⟩ hlt hei (by simp [hei, hae]) ?_
    intro x' h' tk hx' ho hst' hT hsz hk
    rw [hu2] at hx'
    cases hx'
    refine ⟨_, rfl, wpAny_letOwnedTupleGo_enum (s := { s with heap := h', toks := tk + 1 }) ho ?_⟩
    intro h'' he' sb
    have ne1 : s.heap.objs.size ≠ e := Nat.ne_of_gt lt1
    have hT2 := (sb.2 _ ne1).trans hT
    have new : ObjOk X.prog X.w (upd H s.heap.objs.size (.tup [.int (i : Nat), x])) h'' s.heap.objs.size (.tup [.int (i : Nat), x]) :=
      ⟨by show 2 ≤ sizeLine; decide, [.int i tk, u], .cons ⟨_, rfl⟩ (.cons ru .nil), ⟨_, hT2, rfl, _, rfl⟩⟩
    have kp : ∀ b ob, b ∉ [e, it] → s.heap.get? b = some ob → h''.get? b = some ob := fun b ob hb q => by
      have b1 : b ≠ e := fun z => hb (by simp [z])
      have b2 : b ≠ it := fun z => hb (by simp [z])
      exact (sb.2 b b1).trans (hk b ob b1 b2 q)
    have I1 : Inv X pins σ (upd H s.heap.objs.size (.tup [.int (i : Nat), x])) { s with heap := h'', toks := tk + 1 } := I.turnedNew (ch := [e, it]) kp hf (Nat.le_refl _) new
    have fr : H s.heap.objs.size = none := I.hok.fresh (Nat.le_refl _)
    refine ⟨.ref s.heap.objs.size, _, I1, rfl, ⟨_, x, rfl, fr, rfl, fun ys hy => by rw [I.tuple_inj hy hq]; exact hx⟩, ⟨⟨u, ?_⟩, hst'.1.at fun o q => (sb.2 it hei.symm).trans q⟩, fun b hb => ?_⟩
    · have e1 : ((i + 1 : Nat) : Int) = (i : Int) + 1 := by omega
      rw [e1]
      exact he'
    · have hb' : b < s.heap.objs.size := by
        rcases List.mem_cons.mp hb with z | z
        · rw [z]
          exact lt1
        · rw [List.mem_singleton.mp z]
          exact lt2
      rw [upd_ne (Nat.ne_of_lt hb')]
      exact (hf b hb).1
  done := by
    intro X hP hw hK hc i pins s σ H E I hf st hg
    subst hP hw hK
    obtain ⟨⟨old, he⟩, hit⟩ := st
    obtain ⟨xs, hq, hx⟩ := hg
    obtain ⟨its, rv, p, hz⟩ := I.tuple hq
    have tp : s.heap.IsTuple a its.toArray := p
    obtain ⟨f0, f1, f2, f3, f4, f5⟩ := hf it (List.mem_cons_of_mem _ List.mem_cons_self)
    have hl := rv.length
    have D := Draws.tuple (prog := X.prog) (w := X.w) (A := X.A.in1) (I.ok.hd hc) it a ha its.toArray
    have ei : its.toArray.size = i := by
      rw [List.size_toArray, ← hl, hx]
    refine wpAny_pyNext_enum_endD D he ⟨by rw [ei]; exact hit, tp⟩ ?_
    intro h' eb
    exact ⟨rfl, I.turned (t' := s.toks) (fun b o hb q => eb b o hb q) f0 f1 f3 f4 f5⟩
  self := fun A i s Q E st h => by
    obtain ⟨⟨_, he⟩, _⟩ := st
    exact wpAny_pyIter_enum he h
def iEnumT (K : PySem.W.Frag) (ta : TA) : TI := fun σ H R => ta σ H fun vs H1 => ∃ a xs, vs = [.ref a] ∧ SqT K H1 a xs ∧ R (IteT K a) H1
theorem pi_enumT {X : Cx} {K : PySem.W.Frag} {e : Expr} {ta : TA} {p pos tpos : Pos} {elts : List Expr} {kk : Nat} (hK : X.K = K) (hg : Gl X "enumerate") (hm : X.mg "enumerate" = none) (ha : PA X [e] ta) (hs : starEach [e] X.env = [(false, eval e X.env)] := by rfl) :
    PI X (.Tuple elts kk tpos) (.Call (.Name "enumerate" p) [e] [] pos) (iEnumT K ta) := by
  subst hK
  refine ⟨fun pins s σ H R I h => Call_ (ld_blt I hg hm boot_enumerate (PyProof.Rows.callWith_type1 (thn (ha.run pos pins s σ H _ I h) ?_) hs rfl))⟩
  rintro us s1 ⟨vs, H1, I1, r1, a, xs, rfl, hq, q⟩
  obtain ⟨u, rfl, ru⟩ := vals1 r1
  cases ru
  obtain ⟨its, rv, p', hz⟩ := I1.tuple hq
  have tp : s1.heap.IsTuple a its.toArray := p'
  have la : a < s1.heap.objs.size := by
    obtain ⟨o, z, _⟩ := tp
    exact Heap.lt_size z
  refine call_enum1 (begins_tuple a its.toArray) tp ?_
  intro h' he hit hk
  refine wpAny_pyIter_enum he ?_
  have I2 : Inv X pins σ H1 { s1 with heap := h' } := I1.kept (t' := s1.toks) hk
  have n1 : a ≠ s1.heap.objs.size := Nat.ne_of_lt la
  have n2 : s1.heap.objs.size + 1 ≠ a := fun z => by rw [← z] at la; exact absurd la (Nat.not_lt.mpr (Nat.le_succ _))
  refine ⟨s1.heap.objs.size + 1, [s1.heap.objs.size + 1, s1.heap.objs.size], _, _, H1, rfl, I2, turn_enumT a (s1.heap.objs.size + 1) s1.heap.objs.size n1 n2 (Nat.succ_ne_self _), ⟨⟨.none, he⟩, ?_⟩, fun b hb => ?_, q⟩
  · exact ⟨_, hit, rfl, rfl⟩
  · have hle : s1.heap.objs.size ≤ b := by
      rcases List.mem_cons.mp hb with z | z
      · rw [z]
        exact Nat.le_succ _
      · rw [List.mem_singleton.mp z]
        exact Nat.le_refl _
    exact I1.fpOk hle (I1.hok.fresh hle)
def rForE (K : PySem.W.Frag) (g : TG) (tb : TS) (D0 : Ends) (σ : L2.St) (vs : List V) (H1 : Hp) : Prop := ∃ a xs, vs = [.ref a] ∧ SqT K H1 a xs ∧ ForOn (IteT K a) g tb D0 σ H1
section
variable {K : PySem.W.Frag} {S : Addr → Prop} {H H1 : Hp} {a : Addr} {xs : List V} {g : TG} {tb : TS} {σ : L2.St} {D0 : Ends} {ta : TA}
theorem e_forE : tFor (iEnumT K ta) g tb D0 σ H = ta σ H fun x H1 => rForE K g tb D0 σ x H1 := rfl
end
end U
namespace U
open PySem PySem.Spec PyProof.Rows L2
theorem cutV_to (xs : List V) (n : Nat) : cutV xs none (some (n : Int)) = xs.take n := by
  unfold cutV
  rw [HT.sIx_none, HT.sIx_nat, List.drop_zero, Nat.sub_zero]
  by_cases h : n ≤ xs.length
  · rw [Nat.min_eq_left h]
  · rw [Nat.min_eq_right (by omega), List.take_of_length_le (by omega), List.take_of_length_le (by omega)]
end U
namespace U
theorem sum_ones {α : Type} (l : List α) : (l.map fun _ => 1).sum = l.length := by
  induction l with
  | nil => rfl
  | cons a r ih =>
    rw [List.map_cons, List.sum_cons, ih, List.length_cons]
    omega
end U
namespace U
open PySem PySem.Spec PyProof.Rows L2
theorem sql_sm {K : PySem.W.Frag} {H H' : Hp} {a : Addr} {xs : List V} (h : SqL K H a xs) (e : Same H H') : SqL K H' a xs :=
  h.elim (fun h => .inl (h.elim (fun h => .inl (e _ _ h)) fun ⟨o, h⟩ => .inr ⟨o, e _ _ h⟩)) fun h => .inr h
theorem strOk_of {n : Nat} {z : Str} (h : okText n z = true) : PySem.PyData.strOk z = true := by
  have h2 := (okText_iff.mp h).2
  have h3 : ∀ c ∈ U.signs, c < 0x110000 := by decide +kernel
  unfold PySem.PyData.strOk
  rw [Array.all_eq_true_iff_forall_mem]
  intro c hc
  exact decide_eq_true (h3 c (h2 c (by unfold cd; exact Array.mem_toList_iff.mpr hc)))
end U
namespace U
open PySem PySem.Spec PyProof.Rows L2
theorem e_lstRg {ta : TE} {σ : L2.St} {H : Hp} {Q : VK} : tLstRg (tRg1 ta) σ H Q = ta σ H fun x H1 => ∃ n, x = .int n ∧ RgOk 0 n ∧ ∀ q, H1 q = none → Q (.ref q) (upd H1 q (.lst (rgV 0 n))) := rfl
def lenP (s : Sh) (n : Nat) : Nat := if n ≤ s.limit then n else min s.head n + s.mark.length + min s.tail n
def lenR (row : List Sh) (n : Nat) : Nat := row.foldl (fun m s => lenP s m) n
/-- the places 0 .. n - 1 -/
def pl (i : Nat) : D := .int (i : Nat)
def nums (n : Nat) : List D := (List.range n).map pl
theorem nums_length (n : Nat) : (nums n).length = n := by unfold nums; rw [List.length_map, List.length_range]
/-- a part of a plan: a place or a sign -/
def isPl (n : Nat) (d : D) : Prop := (∃ i : Nat, i < n ∧ d = pl i) ∨ ∃ c, c ∈ signs ∧ d = sgn c
theorem plan_pl {row : List Sh} (hr : ∀ s ∈ row, s.ok) (n : Nat) : ∀ d ∈ cutR sgn row (nums n), isPl n d := by
  refine cutR_all (P := isPl n) (fun s hs c hc => .inr ⟨c, (okText_iff.mp (hr s hs).2.2.2).2 c hc, rfl⟩) fun x hx => ?_
  obtain ⟨i, hi, rfl⟩ := List.mem_map.mp hx
  exact .inl ⟨i, List.mem_range.mp hi, rfl⟩
end U
namespace U
open PySem PySem.Spec PyProof.Rows L2
structure PyOk (W k : Nat) (p : PyData) : Prop where
  lay : p.canLay0 = true
  itx : PyData.intsShort 13 p = true
  sh : PyData.showable p = true
  nd : PyData.hasDict p = false
  dep : PyData.depth p ≤ k
  wt : PyData.weight p ≤ W
structure PysOk (W k : Nat) (ps : List PyData) : Prop where
  lay : PyData.canLayAll0 ps = true
  itx : PyData.intsShortAll 13 ps = true
  sh : PyData.showableAll ps = true
  nd : PyData.hasDictAll ps = false
  dep : PyData.depthAll ps ≤ k
  wt : PyData.weightAll ps ≤ W
theorem PysOk.nil (W k : Nat) : PysOk W k [] := ⟨rfl, rfl, rfl, rfl, Nat.zero_le _, Nat.zero_le _⟩
theorem PysOk.cons {W W' k : Nat} {p : PyData} {ps : List PyData} (a : PyOk W k p) (b : PysOk W' k ps) : PysOk (W + 1 + W') k (p :: ps) := by
  obtain ⟨a1, a2, a3, a4, a5, a6⟩ := a
  obtain ⟨b1, b2, b3, b4, b5, b6⟩ := b
  refine ⟨?_, ?_, ?_, ?_, ?_, ?_⟩
  · rw [PyData.canLayAll0, a1, b1]; rfl
  · rw [PyData.intsShortAll, a2, b2]; rfl
  · rw [PyData.showableAll, a3, b3]; rfl
  · rw [PyData.hasDictAll, a4, b4]; rfl
  · rw [PyData.depthAll]; omega
  · rw [PyData.weightAll]; omega
theorem PyOk.mono {W W' k k' : Nat} {p : PyData} (a : PyOk W k p) (h : W ≤ W') (h2 : k ≤ k') : PyOk W' k' p := ⟨a.lay, a.itx, a.sh, a.nd, Nat.le_trans a.dep h2, Nat.le_trans a.wt h⟩
theorem PysOk.mono {W W' k k' : Nat} {p : List PyData} (a : PysOk W k p) (h : W ≤ W') (h2 : k ≤ k') : PysOk W' k' p := ⟨a.lay, a.itx, a.sh, a.nd, Nat.le_trans a.dep h2, Nat.le_trans a.wt h⟩
theorem PysOk.list {W k : Nat} {ps : List PyData} (a : PysOk W k ps) : PyOk W (k + 1) (.list ps) :=
  ⟨by rw [PyData.canLay0]; exact a.lay, by rw [PyData.intsShort]; exact a.itx, by rw [PyData.showable]; exact a.sh, by rw [PyData.hasDict]; exact a.nd, by rw [PyData.depth]; have := a.dep; omega, by rw [PyData.weight]; exact a.wt⟩
theorem PysOk.tuple {W k : Nat} {ps : List PyData} (a : PysOk W k ps) : PyOk W (k + 1) (.tuple ps) :=
  ⟨by rw [PyData.canLay0]; exact a.lay, by rw [PyData.intsShort]; exact a.itx, by rw [PyData.showable]; exact a.sh, by rw [PyData.hasDict]; exact a.nd, by rw [PyData.depth]; have := a.dep; omega, by rw [PyData.weight]; exact a.wt⟩
theorem PyOk.int {i : Int} (h : i.natAbs < 10 ^ 12) : PyOk 40 0 (.int i) := by
  refine ⟨rfl, ?_, ?_, rfl, by rw [PyData.depth]; exact Nat.le_refl _, ?_⟩
  · rw [PyData.intsShort]
    exact decide_eq_true (PyData.shown_int_le h)
  · rw [PyData.showable]
    refine decide_eq_true ?_
    have : i.natAbs.log2 ≤ 40 := by
      by_cases z : i.natAbs = 0
      · rw [z]; decide
      · exact Nat.le_of_lt_succ ((Nat.log2_lt z).mpr (Nat.lt_of_lt_of_le h (by decide)))
    omega
  · rw [PyData.weight]
    split
    · omega
    · have : i.natAbs.log2 < 40 := by
        by_cases z : i.natAbs = 0
        · rw [z]; decide
        · exact (Nat.log2_lt z).mpr (Nat.lt_of_lt_of_le h (by decide))
      omega
theorem PyOk.bl (b : Bool) : PyOk 0 0 (.bool b) := ⟨rfl, rfl, rfl, rfl, by rw [PyData.depth]; exact Nat.le_refl _, by rw [PyData.weight]; exact Nat.le_refl _⟩
theorem PyOk.non : PyOk 0 0 .none := ⟨rfl, rfl, rfl, rfl, by rw [PyData.depth]; exact Nat.le_refl _, by rw [PyData.weight]; exact Nat.le_refl _⟩
theorem PyOk.str {z : Str} {n : Nat} (h : PyData.strOk z = true) (hn : z.length ≤ n) : PyOk n 0 (.str z) :=
  ⟨by rw [PyData.canLay0]; exact h, rfl, rfl, rfl, by rw [PyData.depth]; exact Nat.le_refl _, by rw [PyData.weight]; exact hn⟩
theorem PyOk.text {z : Str} {n : Nat} (h : okText n z = true) : PyOk n 0 (.str z) := .str (strOk_of h) (okText_iff.mp h).1
theorem PyOk.shaped {W k : Nat} {p : PyData} (h : PyOk W k p) (hk : k ≤ 64) : SeqAt.shaped p = true := by
  unfold SeqAt.shaped
  rw [Bool.and_eq_true]
  exact ⟨h.lay, decide_eq_true (Nat.le_trans h.dep hk)⟩
/-- a datum that can be compared and shown -/
def okP (W k : Nat) (d : D) : Prop := ∃ p, D.py d = some p ∧ PyOk W k p
def okPs (W k : Nat) (ds : List D) : Prop := ∃ ps, D.pys ds = some ps ∧ PysOk W k ps
theorem okPs.nil (W k : Nat) : okPs W k [] := ⟨[], by rw [D.pys], .nil _ _⟩
theorem okPs.cons {W W' k : Nat} {d : D} {ds : List D} : okP W k d → okPs W' k ds → okPs (W + 1 + W') k (d :: ds) := fun ⟨p, e, a⟩ ⟨ps, e2, b⟩ => ⟨p :: ps, by rw [D.pys, e, e2], .cons a b⟩
theorem okPs.all {W k : Nat} : ∀ {ds : List D}, (∀ d ∈ ds, okP W k d) → okPs (ds.length * (W + 1)) k ds
  | [], _ => okPs.nil _ _
  | d :: ds, h => by
    obtain ⟨ps, e, a⟩ := okPs.cons (h d List.mem_cons_self) (okPs.all fun x hx => h x (List.mem_cons_of_mem _ hx))
    refine ⟨ps, e, a.mono ?_ (Nat.le_refl _)⟩
    rw [List.length_cons, Nat.succ_mul]
    omega
theorem okPs.list {W k : Nat} {ds : List D} : okPs W k ds → okP W (k + 1) (.lst ds) := fun ⟨ps, e, a⟩ => ⟨.list ps, by rw [D.py, e]; rfl, a.list⟩
theorem okPs.tuple {W k : Nat} {ds : List D} : okPs W k ds → okP W (k + 1) (.tup ds) := fun ⟨ps, e, a⟩ => ⟨.tuple ps, by rw [D.py, e]; rfl, a.tuple⟩
theorem okP.mono {W W' k k' : Nat} {d : D} : okP W k d → W ≤ W' → k ≤ k' → okP W' k' d := fun ⟨p, e, a⟩ h h2 => ⟨p, e, a.mono h h2⟩
theorem okP.int {i : Int} (h : i.natAbs < 10 ^ 12) : okP 40 0 (.int i) := ⟨_, by rw [D.py], .int h⟩
theorem okP.text {z : Str} {n : Nat} (h : okText n z = true) : okP n 0 (.str z) := ⟨_, by rw [D.py], .text h⟩
theorem okP.sgn {c : Nat} (h : c ∈ signs) : okP 1 0 (sgn c) := by
  refine okP.text (n := 1) (z := one c) (okText_iff.mpr ⟨Nat.le_refl 1, fun x hx => ?_⟩)
  have e : x ∈ [c] := hx
  rw [List.mem_singleton.mp e]
  exact h
theorem okP.pl {i : Nat} (h : i < 10 ^ 12) : okP 40 0 (U.pl i) := okP.int (by omega)
end U
namespace U
open PySem PySem.Spec PyProof.Rows L2
section
variable {X : Cx}
def rMulS : R2 := fun x y H Q => ∃ z n, x = .str z ∧ y = .int n ∧ z.length ≤ 2000 ∧ 0 ≤ n ∧ n ≤ 8000 ∧ Q (.str (Txt.mul z n)) H
theorem op_mulS : OpR X (binaryOp .Mult) rMulS := by
  intro pins s σ H x y v u Q I rx ry h
  obtain ⟨z, n, rfl, rfl, hz, h0, h1, q⟩ := h
  obtain ⟨t, rfl⟩ := rx
  obtain ⟨t', rfl⟩ := ry
  exact PySem.SB.mul (mulOk_of 2000 8000 hz (by omega) (by omega) (by decide) (by decide)) fun t2 k => ⟨.str _, H, I.tok _, ⟨_, rfl⟩, q⟩
end
inductive Ru where
  | count | free | tight
def Ru.str : Ru → Str
  | .count => "count"
  | .free => "free"
  | .tight => "tight"
end U
namespace U
open PySem PySem.Spec PyProof.Rows L2
section
variable {K : PySem.W.Frag} {H : Hp} {Q : VK}
theorem joinL {p : Addr} {l : List Nat} (hp : H p = some (.lst (l.map fun c => V.str (one c)))) (hl : l.length ≤ 4000000) (q : Q (.str (ofL l)) H) : rJoin K (.str (Str.ofString "")) [.ref p] H Q := by
  refine ⟨_, p, l.map one, rfl, rfl, .inl (SqL.of (by rw [hp, List.map_map]; rfl)), ?_, ?_⟩
  · rw [List.map_map, List.length_map]
    have e4 : l.map ((fun x => x.length) ∘ one) = l.map fun _ => 1 := rfl
    rw [e4, sum_ones]
    show _ + _ * 0 ≤ _
    omega
  · rw [U.join_one1]
    exact q
end
end U
namespace U
open PySem PySem.Spec PyProof.Rows L2
theorem dtA_strs {S : Addr → Prop} {H : Hp} : ∀ l : List Str, DtA S H (l.map V.str) (l.map D.str)
  | [] => .nil
  | z :: l => .cons (.str z) (dtA_strs l)
end U
namespace U
open PySem PySem.Spec PyProof.Rows L2 HT
section
variable {X : Cx}
def tRevT (K : PySem.W.Frag) (te : TE) : TE := fun σ H Q => te σ H fun x H1 => ∃ a xs, x = .ref a ∧ SqT K H1 a xs ∧ ∀ p, H1 p = none → Q (.ref p) (upd H1 p (.tup xs.reverse))
end
end U
namespace U
open PySem PySem.Spec PyProof.Rows L2
end U
namespace V
open PySem PySem.Spec PyProof.Rows L2 U StX
/-- what may change -/
inductive MO where
  | lst (ds : List D)
  | dic (kvs : List (Key × D))
  | dct (kvs : List (List Key × D))
  | ins (C : Addr) (fs : List (Str × D))
  | tab (q : Str)
  | sys
  | xob (C : Addr) (fs : List (Str × D))
abbrev Mem := Addr → Option MO
def mset (M : Mem) (a : Addr) (o : MO) : Mem := fun b => if b = a then some o else M b
def mdel (M : Mem) (a : Addr) : Mem := fun b => if b = a then none else M b
theorem mset_same {M : Mem} {a : Addr} {o : MO} : mset M a o a = some o := if_pos rfl
theorem mset_ne {M : Mem} {a b : Addr} {o : MO} (h : b ≠ a) : mset M a o b = M b := if_neg h
theorem mset_set {M : Mem} {a : Addr} {o u : MO} : mset (mset M a o) a u = mset M a u := by
  funext b
  unfold mset
  split <;> rfl
theorem mdel_set {M : Mem} {a : Addr} {o : MO} (h : M a = none) : mdel (mset M a o) a = M := by
  funext b
  show (if b = a then none else if b = a then some o else M b) = M b
  by_cases c : b = a
  · rw [if_pos c, c, h]
  · rw [if_neg c, if_neg c]
/-- the fields of an exception whose dict is d -/
def XF (S : Addr → Prop) (H : Hp) (d : Option Addr) (fs : List (Str × D)) : Prop :=
  (d = none ∧ fs = []) ∨ ∃ dd gs, d = some dd ∧ ¬ S dd ∧ H dd = some (.xd gs) ∧ gs.map (·.1) = fs.map (·.1) ∧ DtA S H (gs.map (·.2)) (fs.map (·.2))
def Held (S : Addr → Prop) (H : Hp) (a : Addr) : MO → Prop
  | .lst ds => ∃ vs, H a = some (.lst vs) ∧ DtA S H vs ds
  | .dic kvs => ∃ ws, H a = some (.dK ws) ∧ ws.map (·.1) = kvs.map (·.1) ∧ DtA S H (ws.map (·.2)) (kvs.map (·.2))
  | .dct kvs => ∃ ws, H a = some (.dT ws) ∧ ws.map (·.1) = kvs.map (·.1) ∧ DtA S H (ws.map (·.2)) (kvs.map (·.2))
  | .ins C fs => ∃ dx gs, H a = some (.ins C dx gs) ∧ gs.map (·.1) = fs.map (·.1) ∧ DtA S H (gs.map (·.2)) (fs.map (·.2))
  | .tab q => ∃ ps : Array Value, H a = some (.tbl ps) ∧ TriplesOk ps.toList ∧ ∀ (pos : Pos) (cv : Value), codeAmong pos ps.toList = some cv → ∃ c, cv = .ref c ∧ H c = some (LamX.CodeO c q) ∧ ¬ S c
  | .sys => ∃ (o : Obj) (es : Array DictEntry) (ep : Nat), H a = some (.frz o (.ext fun _ => True)) ∧ o.data = .dict es ep
  | .xob C fs => ∃ (o : Obj) (us : Array Value), H a = some (.frz o (.ext fun _ => True)) ∧ o.cls = .ref C ∧ o.data = .fields us ∧ XF S H o.dict fs
structure Wo (S : Addr → Prop) (M : Mem) (H : Hp) : Prop where
  tr : ∀ a, S a → H a ≠ none
  mem : ∀ a mo, M a = some mo → S a ∧ Held S H a mo
structure Step (S : Addr → Prop) (M : Mem) (H : Hp) (S' : Addr → Prop) (M' : Mem) (H' : Hp) : Prop where
  keep : ∀ b o, M b = none → H b = some o → H' b = some o ∧ M' b = none ∧ (S' b ↔ S b)
/-- slots: what is known of them -/
abbrev Dl := List (Option D)
structure En (S : Addr → Prop) (H : Hp) (σ : L2.St) (δ : Dl) : Prop where
  len : σ.length = δ.length
  at_ : ∀ (i : Nat) (d : D), δ[i]? = some (some d) → ∃ v, σ[i]? = some (some v) ∧ Dt S H v d
section
variable {S S' S1 S2 : Addr → Prop} {M M' M1 M2 : Mem} {H H' H1 H2 : Hp} {σ : L2.St} {δ : Dl}
theorem Step.refl : Step S M H S M H := ⟨fun _ _ h e => ⟨e, h, Iff.rfl⟩⟩
theorem Step.trans (a : Step S M H S1 M1 H1) (b : Step S1 M1 H1 S2 M2 H2) : Step S M H S2 M2 H2 := ⟨fun c o h e => by
  obtain ⟨e1, h1, s1⟩ := a.keep c o h e
  obtain ⟨e2, h2, s2⟩ := b.keep c o h1 e1
  exact ⟨e2, h2, s2.trans s1⟩⟩
theorem Wo.mn (w : Wo S M H) {a : Addr} (h : ¬ S a) : M a = none := by
  cases e : M a with
  | none => rfl
  | some mo => exact (h (w.mem a mo e).1).elim
theorem Wo.ns (w : Wo S M H) {a : Addr} (h : H a = none) : ¬ S a := fun z => w.tr a z h
theorem Wo.fresh (w : Wo S M H) {a : Addr} (h : H a = none) : M a = none := w.mn (w.ns h)
mutual
theorem dt_step (w : Wo S M H) (t : Step S M H S' M' H') : ∀ (d : D) {v : V}, Dt S H v d → Dt S' H' v d
  | .non, _, h => by cases h; exact .non
  | .bl b, _, h => by cases h; exact .bl b
  | .int i, _, h => by cases h; exact .int i
  | .str x, _, h => by cases h; exact .str x
  | .ptr x, _, h => by cases h; exact .ptr x
  | .ty x, _, h => by cases h; exact .ty x
  | .lst ds, _, h => by
    cases h with
    | lst n ha hs =>
      obtain ⟨e1, h1, s1⟩ := t.keep _ _ (w.mn n) ha
      exact .lst (fun z => n (s1.mp z)) e1 (dtA_step w t ds hs)
  | .tup ds, _, h => by
    cases h with
    | tup n ha hs =>
      obtain ⟨e1, h1, s1⟩ := t.keep _ _ (w.mn n) ha
      exact .tup (fun z => n (s1.mp z)) e1 (dtA_step w t ds hs)
  | .ins C ns ds, _, h => by
    cases h with
    | ins n ha hn hs =>
      obtain ⟨e1, h1, s1⟩ := t.keep _ _ (w.mn n) ha
      exact .ins (fun z => n (s1.mp z)) e1 hn (dtA_step w t ds hs)
  | .opq a o, _, h => by
    cases h with
    | opq n ha =>
      obtain ⟨e1, h1, s1⟩ := t.keep _ _ (w.mn n) ha
      exact .opq (fun z => n (s1.mp z)) e1
  | .ftp ds, _, h => by
    cases h with
    | ftp n ha hd hs =>
      obtain ⟨e1, h1, s1⟩ := t.keep _ _ (w.mn n) ha
      exact .ftp (fun z => n (s1.mp z)) e1 hd (dtA_step w t ds hs)
theorem dtA_step (w : Wo S M H) (t : Step S M H S' M' H') : ∀ (ds : List D) {vs : List V}, DtA S H vs ds → DtA S' H' vs ds
  | [], _, h => by cases h; exact .nil
  | d :: ds, _, h => by
    cases h with
    | cons h1 h2 => exact .cons (dt_step w t d h1) (dtA_step w t ds h2)
end
theorem En.step (e : En S H σ δ) (w : Wo S M H) (t : Step S M H S' M' H') : En S' H' σ δ :=
  ⟨e.len, fun i d h => by
    obtain ⟨v, h1, h2⟩ := e.at_ i d h
    exact ⟨v, h1, dt_step w t d h2⟩⟩
theorem En.set (e : En S H σ δ) {i : Nat} {v : V} {d : D} (h : Dt S H v d) : En S H (σ.set i (some v)) (δ.set i (some d)) := by
  refine ⟨by rw [List.length_set, List.length_set]; exact e.len, fun j y hj => ?_⟩
  by_cases c : i = j
  · subst c
    by_cases l : i < δ.length
    · rw [List.getElem?_set_self l] at hj
      cases hj
      exact ⟨v, List.getElem?_set_self (by rw [e.len]; exact l), h⟩
    · rw [List.getElem?_eq_none (by rw [List.length_set]; omega)] at hj
      cases hj
  · rw [List.getElem?_set_ne c] at hj
    rw [List.getElem?_set_ne c]
    exact e.at_ j y hj
theorem En.unset (e : En S H σ δ) {i : Nat} {o : Option V} : En S H (σ.set i o) (δ.set i none) := by
  refine ⟨by rw [List.length_set, List.length_set]; exact e.len, fun j y hj => ?_⟩
  by_cases c : i = j
  · subst c
    by_cases l : i < δ.length
    · rw [List.getElem?_set_self l] at hj
      cases hj
    · rw [List.getElem?_eq_none (by rw [List.length_set]; omega)] at hj
      cases hj
  · rw [List.getElem?_set_ne c] at hj
    rw [List.getElem?_set_ne c]
    exact e.at_ j y hj
def wipeD (δ : Dl) : List Nat → Dl
  | [] => δ
  | v :: vs => (wipeD δ vs).set v none
theorem En.wipe (e : En S H σ δ) : ∀ vs : List Nat, En S H (L2.wipe σ vs) (wipeD δ vs)
  | [] => e
  | v :: vs => (En.wipe e vs).unset
/-- an object that no store speaks of -/
theorem Wo.new (w : Wo S M H) {p : Addr} {o : HO} (h : H p = none) : Wo S M (upd H p o) := by
  refine ⟨fun a s => ?_, fun a mo e => ?_⟩
  · rw [upd_ne (fun z => w.tr a s (by rw [z]; exact h))]
    exact w.tr a s
  · obtain ⟨s, k⟩ := w.mem a mo e
    have na : a ≠ p := fun z => w.tr a s (by rw [z]; exact h)
    refine ⟨s, ?_⟩
    cases mo with
    | lst ds =>
      obtain ⟨vs, h1, h2⟩ := k
      exact ⟨vs, (upd_ne na).trans h1, h2.sm (Same.new h)⟩
    | dic ds =>
      obtain ⟨vs, h1, h3, h2⟩ := k
      exact ⟨vs, (upd_ne na).trans h1, h3, h2.sm (Same.new h)⟩
    | dct ds =>
      obtain ⟨vs, h1, h3, h2⟩ := k
      exact ⟨vs, (upd_ne na).trans h1, h3, h2.sm (Same.new h)⟩
    | ins C ds =>
      obtain ⟨dx, vs, h1, h3, h2⟩ := k
      exact ⟨dx, vs, (upd_ne na).trans h1, h3, h2.sm (Same.new h)⟩
    | tab q =>
      obtain ⟨ps, h1, h2, h3⟩ := k
      refine ⟨ps, (upd_ne na).trans h1, h2, fun pos cv hc => ?_⟩
      obtain ⟨c, e1, e2, e3⟩ := h3 pos cv hc
      exact ⟨c, e1, Same.new h _ _ e2, e3⟩
    | sys =>
      obtain ⟨o, es, ep, h1, h2⟩ := k
      exact ⟨o, es, ep, (upd_ne na).trans h1, h2⟩
    | xob C fs =>
      obtain ⟨o, us, h1, h2, h3, h4⟩ := k
      exact ⟨o, us, (upd_ne na).trans h1, h2, h3, h4.imp id fun ⟨dd, gs, e1, e2, e3, e4, e5⟩ => ⟨dd, gs, e1, e2, Same.new h _ _ e3, e4, e5.sm (Same.new h)⟩⟩
theorem Step.new {p : Addr} {o : HO} (h : H p = none) : Step S M H S M (upd H p o) := ⟨fun b u n e => ⟨Same.new h b u e, n, Iff.rfl⟩⟩
/-- the heap grows, the store stays -/
theorem Wo.same (w : Wo S M H) (e : Same H H') : Wo S M H' := by
  refine ⟨fun a s => ?_, fun a mo k => ?_⟩
  · cases h : H a with
    | none => exact (w.tr a s h).elim
    | some o =>
      rw [e _ _ h]
      exact fun z => nomatch z
  · obtain ⟨s, k⟩ := w.mem a mo k
    refine ⟨s, ?_⟩
    cases mo with
    | lst ds =>
      obtain ⟨vs, h1, h2⟩ := k
      exact ⟨vs, e _ _ h1, h2.sm e⟩
    | dic ds =>
      obtain ⟨vs, h1, h3, h2⟩ := k
      exact ⟨vs, e _ _ h1, h3, h2.sm e⟩
    | dct ds =>
      obtain ⟨vs, h1, h3, h2⟩ := k
      exact ⟨vs, e _ _ h1, h3, h2.sm e⟩
    | ins C ds =>
      obtain ⟨dx, vs, h1, h3, h2⟩ := k
      exact ⟨dx, vs, e _ _ h1, h3, h2.sm e⟩
    | tab q =>
      obtain ⟨ps, h1, h2, h3⟩ := k
      refine ⟨ps, e _ _ h1, h2, fun pos cv hc => ?_⟩
      obtain ⟨c, e1, e2, e3⟩ := h3 pos cv hc
      exact ⟨c, e1, e _ _ e2, e3⟩
    | sys =>
      obtain ⟨o, es, ep, h1, h2⟩ := k
      exact ⟨o, es, ep, e _ _ h1, h2⟩
    | xob C fs =>
      obtain ⟨o, us, h1, h2, h3, h4⟩ := k
      exact ⟨o, us, e _ _ h1, h2, h3, h4.imp id fun ⟨dd, gs, e1, e2, e3, e4, e5⟩ => ⟨dd, gs, e1, e2, e _ _ e3, e4, e5.sm e⟩⟩
theorem Step.same (e : Same H H') : Step S M H S M H' := ⟨fun b u n h => ⟨e _ _ h, n, Iff.rfl⟩⟩
/-- one more object stands apart -/
theorem held_set {a : Addr} {mo : MO} (f : ∀ a, ¬ S a → H a ≠ none → ¬ S' a) (k : Held S H a mo) : Held S' H a mo := by
  cases mo with
  | lst ds =>
    obtain ⟨vs, h1, h2⟩ := k
    exact ⟨vs, h1, DtA.set f ds h2⟩
  | dic ds =>
    obtain ⟨vs, h1, h3, h2⟩ := k
    exact ⟨vs, h1, h3, DtA.set f _ h2⟩
  | dct ds =>
    obtain ⟨vs, h1, h3, h2⟩ := k
    exact ⟨vs, h1, h3, DtA.set f _ h2⟩
  | ins C ds =>
    obtain ⟨dx, vs, h1, h3, h2⟩ := k
    exact ⟨dx, vs, h1, h3, DtA.set f _ h2⟩
  | tab q =>
    obtain ⟨ps, h1, h2, h3⟩ := k
    refine ⟨ps, h1, h2, fun pos cv hc => ?_⟩
    obtain ⟨c, e1, e2, e3⟩ := h3 pos cv hc
    exact ⟨c, e1, e2, f _ e3 (by rw [e2]; exact fun z => nomatch z)⟩
  | sys => exact k
  | xob C fs =>
    obtain ⟨o, us, h1, h2, h3, h4⟩ := k
    exact ⟨o, us, h1, h2, h3, h4.imp id fun ⟨dd, gs, e1, e2, e3, e4, e5⟩ => ⟨dd, gs, e1, f _ e2 (by rw [e3]; exact fun z => nomatch z), e3, e4, DtA.set f _ e5⟩⟩
theorem held_ext {a : Addr} {mo : MO} (e : Ext S H H') (ha : ∀ o, H a = some o → H' a = some o) (k : Held S H a mo) : Held S H' a mo := by
  cases mo with
  | lst ds =>
    obtain ⟨vs, h1, h2⟩ := k
    exact ⟨vs, ha _ h1, h2.go e⟩
  | dic ds =>
    obtain ⟨vs, h1, h3, h2⟩ := k
    exact ⟨vs, ha _ h1, h3, h2.go e⟩
  | dct ds =>
    obtain ⟨vs, h1, h3, h2⟩ := k
    exact ⟨vs, ha _ h1, h3, h2.go e⟩
  | ins C ds =>
    obtain ⟨dx, vs, h1, h3, h2⟩ := k
    exact ⟨dx, vs, ha _ h1, h3, h2.go e⟩
  | tab q =>
    obtain ⟨ps, h1, h2, h3⟩ := k
    refine ⟨ps, ha _ h1, h2, fun pos cv hc => ?_⟩
    obtain ⟨c, e1, e2, e3⟩ := h3 pos cv hc
    exact ⟨c, e1, e _ _ e3 e2, e3⟩
  | sys =>
    obtain ⟨o, es, ep, h1, h2⟩ := k
    exact ⟨o, es, ep, ha _ h1, h2⟩
  | xob C fs =>
    obtain ⟨o, us, h1, h2, h3, h4⟩ := k
    exact ⟨o, us, ha _ h1, h2, h3, h4.imp id fun ⟨dd, gs, e1, e2, e3, e4, e5⟩ => ⟨dd, gs, e1, e2, e _ _ e2 e3, e4, e5.go e⟩⟩
theorem Wo.apart (w : Wo S M H) {p : Addr} {o : HO} (h : H p = none) : Wo (fun a => S a ∨ a = p) M (upd H p o) := by
  have w1 := w.new (o := o) h
  refine ⟨fun a s => ?_, fun a mo e => ?_⟩
  · rcases s with s | rfl
    · exact w1.tr a s
    · rw [upd_same]
      exact fun z => nomatch z
  · obtain ⟨s, k⟩ := w.mem a mo e
    have na : a ≠ p := fun z => w.tr a s (by rw [z]; exact h)
    have k1 : Held (fun a => S a ∨ a = p) H a mo := held_set (fun b n k z => z.elim n fun q => k (by rw [q]; exact h)) k
    exact ⟨.inl s, held_ext (Ext.of (Same.new h)) (fun u hu => (upd_ne na).trans hu) k1⟩
theorem Step.apart {p : Addr} {o : HO} (h : H p = none) : Step S M H (fun a => S a ∨ a = p) M (upd H p o) := ⟨fun b u n e => ⟨Same.new h b u e, n, ⟨fun z => z.elim id fun q => (ne_of_none e h q).elim, .inl⟩⟩⟩
/-- .. and may change -/
theorem Wo.mutable (w : Wo S M H) {p : Addr} {o : HO} {mo : MO} (h : H p = none) (k : Held (fun a => S a ∨ a = p) (upd H p o) p mo) : Wo (fun a => S a ∨ a = p) (mset M p mo) (upd H p o) := by
  have w1 := w.apart (o := o) h
  refine ⟨w1.tr, fun a mo' e => ?_⟩
  by_cases c : a = p
  · subst c
    rw [mset_same] at e
    cases e
    exact ⟨.inr rfl, k⟩
  · rw [mset_ne c] at e
    exact w1.mem a mo' e
theorem Step.mutable (w : Wo S M H) {p : Addr} {o : HO} {mo : MO} (h : H p = none) : Step S M H (fun a => S a ∨ a = p) (mset M p mo) (upd H p o) := ⟨fun b u n e => ⟨Same.new h b u e, by rw [mset_ne (ne_of_none e h)]; exact n, ⟨fun z => z.elim id fun q => (ne_of_none e h q).elim, .inl⟩⟩⟩
/-- a change -/
theorem Wo.change (w : Wo S M H) {p : Addr} {o : HO} {mo mo' : MO} (h : M p = some mo) (k : Held S (upd H p o) p mo') : Wo S (mset M p mo') (upd H p o) := by
  have sp := (w.mem p mo h).1
  have ex : Ext S H (upd H p o) := Ext.mut (Ext.refl _) sp
  refine ⟨fun a s => ?_, fun a m e => ?_⟩
  · by_cases c : a = p
    · rw [c, upd_same]
      exact fun z => nomatch z
    · rw [upd_ne c]
      exact w.tr a s
  · by_cases c : a = p
    · subst c
      rw [mset_same] at e
      cases e
      exact ⟨sp, k⟩
    · rw [mset_ne c] at e
      obtain ⟨s, q⟩ := w.mem a m e
      exact ⟨s, held_ext ex (fun u hu => (upd_ne c).trans hu) q⟩
theorem Step.change {p : Addr} {o : HO} {mo mo' : MO} (h : M p = some mo) : Step S M H S (mset M p mo') (upd H p o) := ⟨fun b u n e => by
  have c : b ≠ p := by rintro rfl; rw [h] at n; cases n
  exact ⟨(upd_ne c).trans e, (mset_ne c).trans n, Iff.rfl⟩⟩
/-- an object changes no more -/
theorem Wo.freeze (w : Wo S M H) {p : Addr} : Wo (fun a => S a ∧ a ≠ p) (mdel M p) H := by
  refine ⟨fun a s => w.tr a s.1, fun a mo e => ?_⟩
  unfold mdel at e
  split at e
  · cases e
  · rename_i c
    obtain ⟨s, k⟩ := w.mem a mo e
    exact ⟨⟨s, c⟩, held_set (fun b n _ z => n z.1) k⟩
theorem Step.freeze {p : Addr} {mo : MO} (h : M p = some mo) : Step S M H (fun a => S a ∧ a ≠ p) (mdel M p) H := ⟨fun b u n e => by
  have c : b ≠ p := by rintro rfl; rw [h] at n; cases n
  exact ⟨e, (if_neg c).trans n, ⟨fun z => z.1, fun z => ⟨z, c⟩⟩⟩⟩
theorem dtA_freeze {p : Addr} {v : List V} {d : List D} (h : DtA S H v d) : DtA (fun a => S a ∧ a ≠ p) H v d := DtA.set (fun b n _ z => n z.1) d h
/-- what has been made since is of no use -/
def Mle (M M' : Mem) : Prop := ∀ a mo, M a = some mo → M' a = some mo
theorem Wo.drop (w : Wo S M' H) (l : Mle M M') : Wo S M H := ⟨w.tr, fun a mo e => w.mem a mo (l a mo e)⟩
end
abbrev QD := D → Mem → Prop
abbrev DE := Dl → Mem → QD → Prop
abbrev DT := Dl → Mem → (Bool → Mem → Prop) → Prop
abbrev DA := Dl → Mem → (List D → Mem → Prop) → Prop
/-- what is reached: S', M', H' behind S, M, H -/
def AtE (S : Addr → Prop) (M : Mem) (H : Hp) (P : QD) (Q : VK) : Prop := ∀ d S' M' v H', P d M' → Step S M H S' M' H' → Wo S' M' H' → Dt S' H' v d → Q v H'
def AtT (S : Addr → Prop) (M : Mem) (H : Hp) (P : Bool → Mem → Prop) (Q : Bool → Hp → Prop) : Prop := ∀ b S' M' H', P b M' → Step S M H S' M' H' → Wo S' M' H' → Q b H'
def AtA (S : Addr → Prop) (M : Mem) (H : Hp) (P : List D → Mem → Prop) (Q : List V → Hp → Prop) : Prop := ∀ ds S' M' vs H', P ds M' → Step S M H S' M' H' → Wo S' M' H' → DtA S' H' vs ds → Q vs H'
class PuE (t : TE) (dt : outParam DE) : Prop where
  run : ∀ S M σ δ H P Q, Wo S M H → En S H σ δ → dt δ M P → AtE S M H P Q → t σ H Q
class PuT (t : TT) (dt : outParam DT) : Prop where
  run : ∀ S M σ δ H P Q, Wo S M H → En S H σ δ → dt δ M P → AtT S M H P Q → t σ H Q
class PuA (t : TA) (dt : outParam DA) : Prop where
  run : ∀ S M σ δ H P Q, Wo S M H → En S H σ δ → dt δ M P → AtA S M H P Q → t σ H Q
section
variable {S S' : Addr → Prop} {M M' : Mem} {H H' : Hp}
theorem AtE.go {P : QD} {Q : VK} (a : AtE S M H P Q) (t : Step S M H S' M' H') : AtE S' M' H' P Q := fun d S2 M2 v H2 p t2 w2 h => a d S2 M2 v H2 p (t.trans t2) w2 h
theorem AtT.go {P : Bool → Mem → Prop} {Q : Bool → Hp → Prop} (a : AtT S M H P Q) (t : Step S M H S' M' H') : AtT S' M' H' P Q := fun d S2 M2 H2 p t2 w2 => a d S2 M2 H2 p (t.trans t2) w2
theorem AtA.go {P : List D → Mem → Prop} {Q : List V → Hp → Prop} (a : AtA S M H P Q) (t : Step S M H S' M' H') : AtA S' M' H' P Q := fun d S2 M2 v H2 p t2 w2 h => a d S2 M2 v H2 p (t.trans t2) w2 h
end
/-- an operation on two values, over data -/
abbrev DR := D → D → Mem → QD → Prop
class OpD (r : R2) (rd : outParam DR) : Prop where
  run : ∀ S M H x y dx dy P Q, Wo S M H → Dt S H x dx → Dt S H y dy → rd dx dy M P → AtE S M H P Q → r x y H Q
abbrev DC := List D → Mem → QD → Prop
class CbD (r : List V → Hp → VK → Prop) (rd : outParam DC) : Prop where
  run : ∀ S M H vs ds P Q, Wo S M H → DtA S H vs ds → rd ds M P → AtE S M H P Q → r vs H Q
/-- a tuple of either kind -/
def isTF (x : D) (xs : List D) : Prop := match x with
  | .tup ys => ys = xs
  | .ftp ys => ys = xs
  | _ => False
theorem tf_cases {x : D} {xs : List D} (h : isTF x xs) : x = .tup xs ∨ x = .ftp xs := by
  cases x <;> first | (cases h; exact .inl rfl) | (cases h; exact .inr rfl) | exact h.elim
theorem tf_get {S : Addr → Prop} {H : Hp} {v : V} {x : D} {xs : List D} (h : Dt S H v x) (e : isTF x xs) : ∃ a vs, v = .ref a ∧ ¬ S a ∧ Rd H a (.tup vs) ∧ DtA S H vs xs := by
  rcases tf_cases e with rfl | rfl
  · cases h with
    | tup n ha hs => exact ⟨_, _, rfl, n, Or.inl ha, hs⟩
  · cases h with
    | ftp n ha hd hs => exact ⟨_, _, rfl, n, Or.inr ⟨_, ha⟩, hs⟩
def dVar (i : Nat) : DE := fun δ M P => ∃ d, δ[i]? = some (some d) ∧ P d M
def dC (d : D) : DE := fun _ M P => P d M
def dOp (r : DR) (a b : DE) : DE := fun δ M P => a δ M fun x M1 => b δ M1 fun y M2 => r x y M2 P
def dNil : DA := fun _ M P => P [] M
def dCons (a : DE) (r : DA) : DA := fun δ M P => a δ M fun x M1 => r δ M1 fun xs M2 => P (x :: xs) M2
def dTup (t : DA) : DE := fun δ M P => t δ M fun xs M1 => xs.length ≤ sizeLine ∧ P (.tup xs) M1
def dLst (t : DA) : DE := fun δ M P => t δ M fun xs M1 => xs.length ≤ sizeLine ∧ P (.lst xs) M1
/-- a list that will change -/
def tLstM (t : TA) : TE := tLst t
def dLstM (t : DA) : DE := fun δ M P => t δ M fun xs M1 => xs.length ≤ sizeLine ∧ ∀ a, M1 a = none → P (.ptr a) (mset M1 a (.lst xs))
def dIf (c : DT) (a b : DE) : DE := fun δ M P => c δ M fun k M1 => if k = true then a δ M1 P else b δ M1 P
def dB (a : DE) : DT := fun δ M P => a δ M fun x M1 => ∃ b, x = .bl b ∧ P b M1
def dAnd (a b : DT) : DT := fun δ M P => a δ M fun c M1 => if c = true then b δ M1 P else P false M1
def dOr (a b : DT) : DT := fun δ M P => a δ M fun c M1 => if c = true then P true M1 else b δ M1 P
def dNot (a : DT) : DT := fun δ M P => a δ M fun c M1 => P (!c) M1
def dAndV (a b : DE) : DE := fun δ M P => a δ M fun x M1 => ∃ c, x = .bl c ∧ if c = true then b δ M1 P else P (.bl false) M1
def dOrV (a b : DE) : DE := fun δ M P => a δ M fun x M1 => ∃ c, x = .bl c ∧ if c = true then P (.bl true) M1 else b δ M1 P
def dNotV (a : DE) : DE := fun δ M P => a δ M fun x M1 => ∃ c, x = .bl c ∧ P (.bl (!c)) M1
def dChain (r r' : DR) (a b c : DE) : DE := fun δ M P => a δ M fun x M1 => b δ M1 fun y M2 => r x y M2 fun z M3 => ∃ k, z = .bl k ∧ if k = true then c δ M3 fun w M4 => r' y w M4 P else P (.bl false) M3
def dCB (r : DC) (t : DA) : DE := fun δ M P => t δ M fun xs M1 => r xs M1 P
def dThen (a : DE) (k : D → Mem → QD → Prop) : DE := fun δ M P => a δ M fun x M1 => k x M1 P
def dStar (a : DE) (t : DA) : DA := fun δ M P => a δ M fun x M1 => ∃ xs, (isTF x xs ∨ x = .lst xs ∨ ∃ p, x = .ptr p ∧ M1 p = some (.lst xs)) ∧ t δ M1 fun ys M2 => P (xs ++ ys) M2
section
variable {ta tb tc te : TE} {da db dc : DE} {r r' : R2} {rd rd' : DR} {t : TA} {dt : DA} {c c' : TT} {dk dk' : DT}
instance pu_var {i : Nat} : PuE (tVar i) (dVar i) := ⟨fun S M σ δ H P Q w e h k => by
  obtain ⟨d, hd, p⟩ := h
  obtain ⟨v, hv, hD⟩ := e.at_ i d hd
  exact ⟨v, hv, k d S M v H p .refl w hD⟩⟩
instance pu_non : PuE (tC .non) (dC .non) := ⟨fun S M σ δ H P Q w e h k => k _ S M _ H h .refl w .non⟩
instance pu_bl {b : Bool} : PuE (tC (.bl b)) (dC (.bl b)) := ⟨fun S M σ δ H P Q w e h k => k _ S M _ H h .refl w (.bl b)⟩
instance pu_int {b : Int} : PuE (tC (.int b)) (dC (.int b)) := ⟨fun S M σ δ H P Q w e h k => k _ S M _ H h .refl w (.int b)⟩
instance pu_str {b : Str} : PuE (tC (.str b)) (dC (.str b)) := ⟨fun S M σ δ H P Q w e h k => k _ S M _ H h .refl w (.str b)⟩
instance pu_ref {b : Addr} : PuE (tC (.ref b)) (dC (.ptr b)) := ⟨fun S M σ δ H P Q w e h k => k _ S M _ H h .refl w (.ptr b)⟩
instance pu_ty {b : String} : PuE (tC (.ty b)) (dC (.ty b)) := ⟨fun S M σ δ H P Q w e h k => k _ S M _ H h .refl w (.ty b)⟩
instance pu_op [A : PuE ta da] [B : PuE tb db] [R : OpD r rd] : PuE (tOp r ta tb) (dOp rd da db) := ⟨fun S M σ δ H P Q w e h k =>
  A.run S M σ δ H _ _ w e h fun d S1 M1 v H1 p1 t1 w1 h1 =>
    B.run S1 M1 σ δ H1 _ _ w1 (e.step w t1) p1 fun d2 S2 M2 v2 H2 p2 t2 w2 h2 =>
      R.run S2 M2 H2 _ _ _ _ P Q w2 (dt_step w1 t2 _ h1) h2 p2 (k.go (t1.trans t2))⟩
instance pu_nil : PuA tNil dNil := ⟨fun S M σ δ H P Q w e h k => k _ S M _ H h .refl w .nil⟩
instance pu_cons [A : PuE ta da] [B : PuA t dt] : PuA (tCons ta t) (dCons da dt) := ⟨fun S M σ δ H P Q w e h k =>
  A.run S M σ δ H _ _ w e h fun d S1 M1 v H1 p1 t1 w1 h1 =>
    B.run S1 M1 σ δ H1 _ _ w1 (e.step w t1) p1 fun d2 S2 M2 v2 H2 p2 t2 w2 h2 =>
      k _ S2 M2 _ H2 p2 (t1.trans t2) w2 (.cons (dt_step w1 t2 _ h1) h2)⟩
instance pu_tup [A : PuA t dt] : PuE (tTup t) (dTup dt) := ⟨fun S M σ δ H P Q w e h k =>
  A.run S M σ δ H _ _ w e h fun d S1 M1 v H1 p1 t1 w1 h1 => ⟨by rw [h1.length]; exact p1.1, fun p np =>
    k _ S1 M1 _ _ p1.2 (t1.trans (.new np)) (w1.new np) (.tup (w1.ns np) upd_same (h1.sm (Same.new np)))⟩⟩
instance pu_lst [A : PuA t dt] : PuE (tLst t) (dLst dt) := ⟨fun S M σ δ H P Q w e h k =>
  A.run S M σ δ H _ _ w e h fun d S1 M1 v H1 p1 t1 w1 h1 => ⟨by rw [h1.length]; exact p1.1, fun p np =>
    k _ S1 M1 _ _ p1.2 (t1.trans (.new np)) (w1.new np) (.lst (w1.ns np) upd_same (h1.sm (Same.new np)))⟩⟩
instance pu_lstM [A : PuA t dt] : PuE (tLstM t) (dLstM dt) := ⟨fun S M σ δ H P Q w e h k =>
  A.run S M σ δ H _ _ w e h fun d S1 M1 v H1 p1 t1 w1 h1 => ⟨by rw [h1.length]; exact p1.1, fun p np =>
    k _ _ _ _ _ (p1.2 p (w1.fresh np)) (t1.trans (Step.mutable w1 np)) (w1.mutable np ⟨_, upd_same, (DtA.set (fun b n k z => z.elim n fun q => k (by rw [q]; exact np)) _ h1).sm (Same.new np)⟩) (.ptr p)⟩⟩
instance pu_if [C : PuT c dk] [A : PuE ta da] [B : PuE tb db] : PuE (tIf c ta tb) (dIf dk da db) := ⟨fun S M σ δ H P Q w e h k =>
  C.run S M σ δ H _ _ w e h fun b S1 M1 H1 p1 t1 w1 => by
    cases b with
    | true =>
      rw [if_pos rfl] at p1 ⊢
      exact A.run S1 M1 σ δ H1 P Q w1 (e.step w t1) p1 (k.go t1)
    | false =>
      rw [if_neg Bool.false_ne_true] at p1 ⊢
      exact B.run S1 M1 σ δ H1 P Q w1 (e.step w t1) p1 (k.go t1)⟩
instance pu_tB [A : PuE ta da] : PuT (tB ta) (dB da) := ⟨fun S M σ δ H P Q w e h k =>
  A.run S M σ δ H _ _ w e h fun d S1 M1 v H1 p1 t1 w1 h1 => by
    obtain ⟨b, rfl, p1⟩ := p1
    cases h1
    exact ⟨b, rfl, k b S1 M1 H1 p1 t1 w1⟩⟩
instance pu_tTest [A : PuE ta da] : PuT (tTest ta) (dB da) := ⟨fun S M σ δ H P Q w e h k =>
  A.run S M σ δ H _ _ w e h fun d S1 M1 v H1 p1 t1 w1 h1 => by
    obtain ⟨b, rfl, p1⟩ := p1
    cases h1
    exact ⟨b, rfl, k b S1 M1 H1 p1 t1 w1⟩⟩
instance pu_and [A : PuT c dk] [B : PuT c' dk'] : PuT (tAnd c c') (dAnd dk dk') := ⟨fun S M σ δ H P Q w e h k =>
  A.run S M σ δ H _ _ w e h fun b S1 M1 H1 p1 t1 w1 => by
    cases b with
    | true =>
      rw [if_pos rfl] at p1 ⊢
      exact B.run S1 M1 σ δ H1 P Q w1 (e.step w t1) p1 (k.go t1)
    | false =>
      rw [if_neg Bool.false_ne_true] at p1 ⊢
      exact k false S1 M1 H1 p1 t1 w1⟩
instance pu_or [A : PuT c dk] [B : PuT c' dk'] : PuT (tOr c c') (dOr dk dk') := ⟨fun S M σ δ H P Q w e h k =>
  A.run S M σ δ H _ _ w e h fun b S1 M1 H1 p1 t1 w1 => by
    cases b with
    | true =>
      rw [if_pos rfl] at p1 ⊢
      exact k true S1 M1 H1 p1 t1 w1
    | false =>
      rw [if_neg Bool.false_ne_true] at p1 ⊢
      exact B.run S1 M1 σ δ H1 P Q w1 (e.step w t1) p1 (k.go t1)⟩
instance pu_not [A : PuT c dk] : PuT (tNot c) (dNot dk) := ⟨fun S M σ δ H P Q w e h k =>
  A.run S M σ δ H _ _ w e h fun b S1 M1 H1 p1 t1 w1 => k _ S1 M1 H1 p1 t1 w1⟩
instance pu_andV [A : PuE ta da] [B : PuE tb db] : PuE (tAndV ta tb) (dAndV da db) := ⟨fun S M σ δ H P Q w e h k =>
  A.run S M σ δ H _ _ w e h fun d S1 M1 v H1 p1 t1 w1 h1 => by
    obtain ⟨b, rfl, p1⟩ := p1
    cases h1
    refine ⟨b, rfl, ?_⟩
    cases b with
    | true =>
      rw [if_pos rfl] at p1 ⊢
      exact B.run S1 M1 σ δ H1 P Q w1 (e.step w t1) p1 (k.go t1)
    | false =>
      rw [if_neg Bool.false_ne_true] at p1 ⊢
      exact k _ S1 M1 _ H1 p1 t1 w1 (.bl false)⟩
instance pu_orV [A : PuE ta da] [B : PuE tb db] : PuE (tOrV ta tb) (dOrV da db) := ⟨fun S M σ δ H P Q w e h k =>
  A.run S M σ δ H _ _ w e h fun d S1 M1 v H1 p1 t1 w1 h1 => by
    obtain ⟨b, rfl, p1⟩ := p1
    cases h1
    refine ⟨b, rfl, ?_⟩
    cases b with
    | true =>
      rw [if_pos rfl] at p1 ⊢
      exact k _ S1 M1 _ H1 p1 t1 w1 (.bl true)
    | false =>
      rw [if_neg Bool.false_ne_true] at p1 ⊢
      exact B.run S1 M1 σ δ H1 P Q w1 (e.step w t1) p1 (k.go t1)⟩
instance pu_notV [A : PuE ta da] : PuE (tNotV ta) (dNotV da) := ⟨fun S M σ δ H P Q w e h k =>
  A.run S M σ δ H _ _ w e h fun d S1 M1 v H1 p1 t1 w1 h1 => by
    obtain ⟨b, rfl, p1⟩ := p1
    cases h1
    exact ⟨b, rfl, k _ S1 M1 _ H1 p1 t1 w1 (.bl _)⟩⟩
instance pu_chain [A : PuE ta da] [B : PuE tb db] [C : PuE tc dc] [R : OpD r rd] [R' : OpD r' rd'] : PuE (tChain r r' ta tb tc) (dChain rd rd' da db dc) := ⟨fun S M σ δ H P Q w e h k =>
  A.run S M σ δ H _ _ w e h fun d S1 M1 v H1 p1 t1 w1 h1 =>
    B.run S1 M1 σ δ H1 _ _ w1 (e.step w t1) p1 fun d2 S2 M2 v2 H2 p2 t2 w2 h2 =>
      R.run S2 M2 H2 _ _ _ _ _ _ w2 (dt_step w1 t2 _ h1) h2 p2 fun d3 S3 M3 v3 H3 p3 t3 w3 h3 => by
        obtain ⟨b, rfl, p3⟩ := p3
        cases h3
        refine ⟨b, rfl, ?_⟩
        have t13 := (t1.trans t2).trans t3
        cases b with
        | true =>
          rw [if_pos rfl] at p3 ⊢
          exact C.run S3 M3 σ δ H3 _ _ w3 (e.step w t13) p3 fun d4 S4 M4 v4 H4 p4 t4 w4 h4 => R'.run S4 M4 H4 _ _ _ _ P Q w4 (dt_step w2 (t3.trans t4) _ h2) h4 p4 (k.go (t13.trans t4))
        | false =>
          rw [if_neg Bool.false_ne_true] at p3 ⊢
          exact k _ S3 M3 _ H3 p3 t13 w3 (.bl false)⟩
instance pu_cb {r : List V → Hp → VK → Prop} {rd : DC} [A : PuA t dt] [R : CbD r rd] : PuE (tCB r t) (dCB rd dt) := ⟨fun S M σ δ H P Q w e h k =>
  A.run S M σ δ H _ _ w e h fun d S1 M1 v H1 p1 t1 w1 h1 => R.run S1 M1 H1 _ _ P Q w1 h1 p1 (k.go t1)⟩
instance pu_star {K : PySem.W.Frag} [A : PuE te da] [B : PuA t dt] : PuA (tStar K te t) (dStar da dt) := ⟨fun S M σ δ H P Q w e h k =>
  A.run S M σ δ H _ _ w e h fun d S1 M1 v H1 p1 t1 w1 h1 => by
    obtain ⟨xs, hx, p1⟩ := p1
    have go : ∀ vs, DtA S1 H1 vs xs → t σ H1 (fun ys H2 => Q (vs ++ ys) H2) := fun vs hvs =>
      B.run S1 M1 σ δ H1 _ _ w1 (e.step w t1) p1 fun d2 S2 M2 v2 H2 p2 t2 w2 h2 => k _ S2 M2 _ H2 p2 (t1.trans t2) w2 ((dtA_step w1 t2 _ hvs).append h2)
    rcases hx with hx | rfl | ⟨p, rfl, hp⟩
    · obtain ⟨a, vs, rfl, n, ha, hs⟩ := tf_get h1 hx
      exact ⟨_, _, rfl, .inl (Or.inl ha), go _ hs⟩
    · cases h1 with
      | lst n ha hs => exact ⟨_, _, rfl, .inr (SqL.of ha), go _ hs⟩
    · cases h1
      obtain ⟨_, vs, ha, hs⟩ := w1.mem p _ hp
      exact ⟨_, _, rfl, .inr (SqL.of ha), go _ hs⟩⟩
end
end V
namespace V
open PySem PySem.Spec PyProof.Rows L2 U StX
mutual
def D.eqb : D → D → Bool
  | .non, .non => true
  | .bl a, .bl b => a == b
  | .bl a, .int j => (if a then 1 else 0) == j
  | .int i, .bl b => i == (if b then 1 else 0)
  | .int i, .int j => i == j
  | .str x, .str y => x == y
  | .lst xs, .lst ys => D.eqbs xs ys
  | .tup xs, .tup ys => D.eqbs xs ys
  | .tup xs, .ftp ys => D.eqbs xs ys
  | .ftp xs, .tup ys => D.eqbs xs ys
  | .ftp xs, .ftp ys => D.eqbs xs ys
  | _, _ => false
def D.eqbs : List D → List D → Bool
  | [], [] => true
  | x :: xs, y :: ys => D.eqb x y && D.eqbs xs ys
  | _, _ => false
end
theorem py_lst {ds : List D} {p : PyData} (h : D.py (.lst ds) = some p) : ∃ ps, D.pys ds = some ps ∧ p = .list ps := by
  rw [D.py] at h
  obtain ⟨ps, h1, h2⟩ := Option.map_eq_some_iff.mp h
  exact ⟨ps, h1, h2.symm⟩
theorem py_tup {ds : List D} {p : PyData} (h : D.py (.tup ds) = some p) : ∃ ps, D.pys ds = some ps ∧ p = .tuple ps := by
  rw [D.py] at h
  obtain ⟨ps, h1, h2⟩ := Option.map_eq_some_iff.mp h
  exact ⟨ps, h1, h2.symm⟩
theorem py_ftp {ds : List D} {p : PyData} (h : D.py (.ftp ds) = some p) : ∃ ps, D.pys ds = some ps ∧ p = .tuple ps := by
  rw [D.py] at h
  obtain ⟨ps, h1, h2⟩ := Option.map_eq_some_iff.mp h
  exact ⟨ps, h1, h2.symm⟩
theorem pys_cons {d : D} {ds : List D} {q : List PyData} (h : D.pys (d :: ds) = some q) : ∃ p ps, D.py d = some p ∧ D.pys ds = some ps ∧ q = p :: ps := by
  rw [D.pys] at h
  cases h1 : D.py d with
  | none => rw [h1] at h; cases h
  | some p =>
    cases h2 : D.pys ds with
    | none => rw [h1, h2] at h; cases h
    | some ps => rw [h1, h2] at h; cases h; exact ⟨p, ps, rfl, rfl, rfl⟩
mutual
theorem eqv_py : ∀ (d e : D) (p q : PyData), D.py d = some p → D.py e = some q → PyData.eqv p q = D.eqb d e
  | .non, e, p, q, hp, hq => by
    rw [D.py] at hp; cases hp
    cases e <;> first | (rw [D.py] at hq; cases hq; first | rfl | (rw [PyData.eqv, D.eqb] <;> simp)) | (obtain ⟨_, _, rfl⟩ := py_lst hq; rw [PyData.eqv, D.eqb] <;> simp) | (obtain ⟨_, _, rfl⟩ := py_tup hq; rw [PyData.eqv, D.eqb] <;> simp) | (obtain ⟨_, _, rfl⟩ := py_ftp hq; rw [PyData.eqv, D.eqb] <;> simp) | (rw [D.py] at hq <;> first | cases hq | simp)
  | .bl b, e, p, q, hp, hq => by
    rw [D.py] at hp; cases hp
    cases e <;> first | (rw [D.py] at hq; cases hq; first | rfl | (rw [PyData.eqv, D.eqb] <;> simp)) | (obtain ⟨_, _, rfl⟩ := py_lst hq; rw [PyData.eqv, D.eqb] <;> simp) | (obtain ⟨_, _, rfl⟩ := py_tup hq; rw [PyData.eqv, D.eqb] <;> simp) | (obtain ⟨_, _, rfl⟩ := py_ftp hq; rw [PyData.eqv, D.eqb] <;> simp) | (rw [D.py] at hq <;> first | cases hq | simp)
  | .int i, e, p, q, hp, hq => by
    rw [D.py] at hp; cases hp
    cases e <;> first | (rw [D.py] at hq; cases hq; first | rfl | (rw [PyData.eqv, D.eqb] <;> simp)) | (obtain ⟨_, _, rfl⟩ := py_lst hq; rw [PyData.eqv, D.eqb] <;> simp) | (obtain ⟨_, _, rfl⟩ := py_tup hq; rw [PyData.eqv, D.eqb] <;> simp) | (obtain ⟨_, _, rfl⟩ := py_ftp hq; rw [PyData.eqv, D.eqb] <;> simp) | (rw [D.py] at hq <;> first | cases hq | simp)
  | .str x, e, p, q, hp, hq => by
    rw [D.py] at hp; cases hp
    cases e <;> first | (rw [D.py] at hq; cases hq; first | rfl | (rw [PyData.eqv, D.eqb] <;> simp)) | (obtain ⟨_, _, rfl⟩ := py_lst hq; rw [PyData.eqv, D.eqb] <;> simp) | (obtain ⟨_, _, rfl⟩ := py_tup hq; rw [PyData.eqv, D.eqb] <;> simp) | (obtain ⟨_, _, rfl⟩ := py_ftp hq; rw [PyData.eqv, D.eqb] <;> simp) | (rw [D.py] at hq <;> first | cases hq | simp)
  | .lst ds, e, p, q, hp, hq => by
    obtain ⟨ps, h1, rfl⟩ := py_lst hp
    cases e with
    | lst es =>
      obtain ⟨qs, h2, rfl⟩ := py_lst hq
      rw [PyData.eqv, D.eqb]
      exact eqvs_py ds es ps qs h1 h2
    | tup es => obtain ⟨_, _, rfl⟩ := py_tup hq; rw [PyData.eqv, D.eqb] <;> simp
    | ftp es => obtain ⟨_, _, rfl⟩ := py_ftp hq; rw [PyData.eqv, D.eqb] <;> simp
    | _ => first | (rw [D.py] at hq; cases hq; rw [PyData.eqv, D.eqb] <;> simp) | (rw [D.py] at hq <;> first | cases hq | simp)
  | .tup ds, e, p, q, hp, hq => by
    obtain ⟨ps, h1, rfl⟩ := py_tup hp
    cases e with
    | tup es =>
      obtain ⟨qs, h2, rfl⟩ := py_tup hq
      rw [PyData.eqv, D.eqb]
      exact eqvs_py ds es ps qs h1 h2
    | lst es => obtain ⟨_, _, rfl⟩ := py_lst hq; rw [PyData.eqv, D.eqb] <;> simp
    | ftp es =>
      obtain ⟨qs, h2, rfl⟩ := py_ftp hq
      rw [PyData.eqv, D.eqb]
      exact eqvs_py ds es ps qs h1 h2
    | _ => first | (rw [D.py] at hq; cases hq; rw [PyData.eqv, D.eqb] <;> simp) | (rw [D.py] at hq <;> first | cases hq | simp)
  | .ins C ns xs, e, p, q, hp, hq => by rw [D.py] at hp <;> first | cases hp | simp
  | .ptr a, e, p, q, hp, hq => by rw [D.py] at hp <;> first | cases hp | simp
  | .ty a, e, p, q, hp, hq => by rw [D.py] at hp <;> first | cases hp | simp
  | .opq a o, e, p, q, hp, hq => by rw [D.py] at hp <;> first | cases hp | simp
  | .ftp ds, e, p, q, hp, hq => by
    obtain ⟨ps, h1, rfl⟩ := py_ftp hp
    cases e with
    | tup es =>
      obtain ⟨qs, h2, rfl⟩ := py_tup hq
      rw [PyData.eqv, D.eqb]
      exact eqvs_py ds es ps qs h1 h2
    | ftp es =>
      obtain ⟨qs, h2, rfl⟩ := py_ftp hq
      rw [PyData.eqv, D.eqb]
      exact eqvs_py ds es ps qs h1 h2
    | lst es => obtain ⟨_, _, rfl⟩ := py_lst hq; rw [PyData.eqv, D.eqb] <;> simp
    | _ => first | (rw [D.py] at hq; cases hq; rw [PyData.eqv, D.eqb] <;> simp) | (rw [D.py] at hq <;> first | cases hq | simp)
theorem eqvs_py : ∀ (ds es : List D) (ps qs : List PyData), D.pys ds = some ps → D.pys es = some qs → PyData.eqvAll ps qs = D.eqbs ds es
  | [], [], ps, qs, hp, hq => by rw [D.pys] at hp hq; cases hp; cases hq; rw [PyData.eqvAll, D.eqbs]
  | [], e :: es, ps, qs, hp, hq => by
    obtain ⟨p, qs, h1, h2, rfl⟩ := pys_cons hq
    rw [D.pys] at hp; cases hp
    rw [PyData.eqvAll, D.eqbs] <;> simp
  | d :: ds, [], ps, qs, hp, hq => by
    obtain ⟨p, qs, h1, h2, rfl⟩ := pys_cons hp
    rw [D.pys] at hq; cases hq
    rw [PyData.eqvAll, D.eqbs] <;> simp
  | d :: ds, e :: es, ps, qs, hp, hq => by
    obtain ⟨p, ps, h1, h2, rfl⟩ := pys_cons hp
    obtain ⟨q, qs, h3, h4, rfl⟩ := pys_cons hq
    rw [PyData.eqvAll, D.eqbs, eqv_py d e p q h1 h3, eqvs_py ds es ps qs h2 h4]
end
/-- data that == looks through -/
def EqOk (d : D) : Prop := ∃ p, D.py d = some p ∧ SeqAt.shaped p = true
theorem EqOk.of {W k : Nat} {d : D} (h : okP W k d) (hk : k ≤ 64) : EqOk d := by
  obtain ⟨p, e, o⟩ := h
  exact ⟨p, e, o.shaped hk⟩
/-- what a name of a changing list stands for -/
def vw (M : Mem) (d : D) : D := match d with
  | .ptr a => match M a with
    | some (.lst ds) => .lst ds
    | _ => .ptr a
  | d => d
section
variable {S S' : Addr → Prop} {M M' : Mem} {H H' : Hp} {K : PySem.W.Frag}
theorem dt_vw (w : Wo S M H) {v : V} {d : D} {p : PyData} (h : Dt S H v d) (e : D.py (vw M d) = some p) : Dp K H v p := by
  cases d with
  | ptr a =>
    unfold vw at e
    cases hm : M a with
    | none => simp only [hm] at e; rw [D.py] at e <;> first | cases e | simp
    | some mo =>
      cases mo with
      | lst ds =>
        simp only [hm] at e
        cases h
        obtain ⟨_, vs, h1, h2⟩ := w.mem a _ hm
        obtain ⟨ps, e1, rfl⟩ := py_lst e
        exact .lst (SqL.of h1) (DtA.dp ds h2 e1)
      | dic ds => simp only [hm] at e; rw [D.py] at e <;> first | cases e | simp
      | dct ds => simp only [hm] at e; rw [D.py] at e <;> first | cases e | simp
      | ins C ds => simp only [hm] at e; rw [D.py] at e <;> first | cases e | simp
      | tab q => simp only [hm] at e; rw [D.py] at e <;> first | cases e | simp
      | sys => simp only [hm] at e; rw [D.py] at e <;> first | cases e | simp
      | xob C fs => simp only [hm] at e; rw [D.py] at e <;> first | cases e | simp
  | _ => exact Dt.dp _ h e
end
/-- == : flat values as they are, data by its contents -/
def rEqA (K : PySem.W.Frag) : R2 := fun x y H Q => (scal x y = true ∧ Q (.bl (decide (x = y))) H) ∨ rEqD K x y H Q
def rNeA (K : PySem.W.Frag) : R2 := fun x y H Q => (scal x y = true ∧ Q (.bl (!decide (x = y))) H) ∨ rNeD K x y H Q
section
variable {X : Cx} {K : PySem.W.Frag}
theorem op_eqA (h : X.K = K) (hu : X.A.units + 64 < cLine) : OpR X (compareOp .Eq) (rEqA K) := by
  subst h
  intro pins s σ H x y v u Q I rx ry h
  rcases h with h | h
  · exact op_eq pins s σ H _ _ v u Q I rx ry h
  · exact op_eqD hu pins s σ H _ _ v u Q I rx ry h
theorem op_neA (h : X.K = K) (hu : X.A.units + 64 < cLine) : OpR X (compareOp .NotEq) (rNeA K) := by
  subst h
  intro pins s σ H x y v u Q I rx ry h
  rcases h with h | h
  · exact op_ne pins s σ H _ _ v u Q I rx ry h
  · exact op_neD hu pins s σ H _ _ v u Q I rx ry h
end
def eqR (M : Mem) (x y : D) (P : Bool → Prop) : Prop := match x, y with
  | .int i, .int j => P (decide (i = j))
  | .str a, .str b => P (decide (a = b))
  | .bl a, .bl b => P (decide (a = b))
  | .non, .non => P true
  | .non, .str _ => P false
  | .str _, .non => P false
  | .non, .int _ => P false
  | .int _, .non => P false
  | .int _, .str _ => P false
  | .str _, .int _ => P false
  | x, y => EqOk (vw M x) ∧ EqOk (vw M y) ∧ P (D.eqb (vw M x) (vw M y))
theorem eqR_go {S : Addr → Prop} {M : Mem} {H : Hp} {K : PySem.W.Frag} (w : Wo S M H) {x y : V} {dx dy : D} {P : Bool → Prop} (hx : Dt S H x dx) (hy : Dt S H y dy) (h : eqR M dx dy P) :
    (∃ b, scal x y = true ∧ decide (x = y) = b ∧ P b) ∨ ∃ p q, Dp K H x p ∧ Dp K H y q ∧ SeqAt.shaped p = true ∧ SeqAt.shaped q = true ∧ P (PyData.eqv p q) := by
  have gen : EqOk (vw M dx) ∧ EqOk (vw M dy) ∧ P (D.eqb (vw M dx) (vw M dy)) → ∃ p q, Dp K H x p ∧ Dp K H y q ∧ SeqAt.shaped p = true ∧ SeqAt.shaped q = true ∧ P (PyData.eqv p q) := by
    rintro ⟨⟨p, e1, s1⟩, ⟨q, e2, s2⟩, hp⟩
    exact ⟨p, q, dt_vw w hx e1, dt_vw w hy e2, s1, s2, by rw [eqv_py _ _ p q e1 e2]; exact hp⟩
  unfold eqR at h
  split at h
  · cases hx; cases hy; exact .inl ⟨_, rfl, by simp, h⟩
  · cases hx; cases hy; exact .inl ⟨_, rfl, by simp, h⟩
  · cases hx; cases hy; exact .inl ⟨_, rfl, by simp, h⟩
  · cases hx; cases hy; exact .inl ⟨_, rfl, by simp, h⟩
  · cases hx; cases hy; exact .inl ⟨_, rfl, by simp, h⟩
  · cases hx; cases hy; exact .inl ⟨_, rfl, by simp, h⟩
  · cases hx; cases hy; exact .inl ⟨_, rfl, by simp, h⟩
  · cases hx; cases hy; exact .inl ⟨_, rfl, by simp, h⟩
  · cases hx; cases hy; exact .inl ⟨_, rfl, by simp, h⟩
  · cases hx; cases hy; exact .inl ⟨_, rfl, by simp, h⟩
  · exact .inr (gen h)
def rEq1 : DR := fun x y M P => eqR M x y fun b => P (.bl b) M
def rNe1 : DR := fun x y M P => eqR M x y fun b => P (.bl (!b)) M
instance op_eq1 {K : PySem.W.Frag} : OpD (rEqA K) rEq1 := ⟨fun S M H x y dx dy P Q w hx hy h k => by
  rcases eqR_go (K := K) w hx hy h with ⟨b, s, e, p⟩ | ⟨p, q, h1, h2, h3, h4, h5⟩
  · exact .inl ⟨s, by rw [e]; exact k _ S M _ H p .refl w (.bl _)⟩
  · exact .inr ⟨p, q, h1, h2, h3, h4, k _ S M _ H h5 .refl w (.bl _)⟩⟩
instance op_ne1 {K : PySem.W.Frag} : OpD (rNeA K) rNe1 := ⟨fun S M H x y dx dy P Q w hx hy h k => by
  rcases eqR_go (K := K) w hx hy h with ⟨b, s, e, p⟩ | ⟨p, q, h1, h2, h3, h4, h5⟩
  · exact .inl ⟨s, by rw [e]; exact k _ S M _ H p .refl w (.bl _)⟩
  · exact .inr ⟨p, q, h1, h2, h3, h4, k _ S M _ H h5 .refl w (.bl _)⟩⟩
/-- what stands in a list, a tuple -/
def isSq (M : Mem) (d : D) (xs : List D) : Prop := d = .lst xs ∨ isTF d xs ∨ ∃ a, d = .ptr a ∧ M a = some (.lst xs)
def isLs (M : Mem) (d : D) (xs : List D) : Prop := d = .lst xs ∨ ∃ a, d = .ptr a ∧ M a = some (.lst xs)
section
variable {S : Addr → Prop} {M : Mem} {H : Hp} {K : PySem.W.Frag} {v : V} {d : D} {xs : List D}
theorem sq_get (w : Wo S M H) (h : Dt S H v d) (e : isSq M d xs) : ∃ a vs, v = .ref a ∧ (H a = some (.lst vs) ∨ Rd H a (.tup vs)) ∧ DtA S H vs xs := by
  rcases e with rfl | e | ⟨a, rfl, e⟩
  · cases h with
    | lst n ha hs => exact ⟨_, _, rfl, .inl ha, hs⟩
  · obtain ⟨a, vs, rfl, n, ha, hs⟩ := tf_get h e
    exact ⟨_, _, rfl, .inr ha, hs⟩
  · cases h
    obtain ⟨_, vs, h1, h2⟩ := w.mem a _ e
    exact ⟨a, vs, rfl, .inl h1, h2⟩
theorem ls_get (w : Wo S M H) (h : Dt S H v d) (e : isLs M d xs) : ∃ a vs, v = .ref a ∧ H a = some (.lst vs) ∧ DtA S H vs xs := by
  rcases e with rfl | ⟨a, rfl, e⟩
  · cases h with
    | lst n ha hs => exact ⟨_, _, rfl, ha, hs⟩
  · cases h
    obtain ⟨_, vs, h1, h2⟩ := w.mem a _ e
    exact ⟨a, vs, rfl, h1, h2⟩
end
def rAdd1 : DR := fun x y M P => match x, y with
  | .int i, .int j => P (.int (i + j)) M
  | .str a, .str b => a.length + b.length ≤ sizeLine ∧ P (.str (a ++ b)) M
  | x, y => ∃ xs ys, isLs M x xs ∧ isLs M y ys ∧ xs.length + ys.length ≤ sizeLine ∧ P (.lst (xs ++ ys)) M
theorem rAddU_l {a b : Addr} {xs ys : List V} {H : Hp} {Q : VK} (h1 : H a = some (.lst xs)) (h2 : H b = some (.lst ys)) (hl : xs.length + ys.length ≤ sizeLine) (q : ∀ r, H r = none → Q (.ref r) (upd H r (.lst (xs ++ ys)))) : rAddU (.ref a) (.ref b) H Q := ⟨xs, ys, h1, h2, hl, q⟩
instance op_add1 : OpD rAddU rAdd1 := ⟨fun S M H x y dx dy P Q w hx hy h k => by
  unfold rAdd1 at h
  split at h
  · cases hx; cases hy; exact k _ S M _ H h .refl w (.int _)
  · cases hx; cases hy; exact ⟨h.1, k _ S M _ H h.2 .refl w (.str _)⟩
  · obtain ⟨xs, ys, h1, h2, hl, p⟩ := h
    obtain ⟨a, vs, rfl, ha, hs⟩ := ls_get w hx h1
    obtain ⟨b, ws, rfl, hb, ht⟩ := ls_get w hy h2
    exact rAddU_l ha hb (by rw [hs.length, ht.length]; exact hl) fun r nr => k _ S M _ _ p (.new nr) (w.new nr) (.lst (w.ns nr) upd_same ((hs.append ht).sm (Same.new nr)))⟩
/-- a value made of two numbers -/
class VD (f : Int → Int → V) (g : outParam (Int → Int → D)) : Prop where
  run : ∀ S H i j, Dt S H (f i j) (g i j)
instance vd_int {f : Int → Int → Int} : VD (fun i j => .int (f i j)) (fun i j => .int (f i j)) := ⟨fun _ _ _ _ => .int _⟩
instance vd_bl {f : Int → Int → Bool} : VD (fun i j => .bl (f i j)) (fun i j => .bl (f i j)) := ⟨fun _ _ _ _ => .bl _⟩
def rI1 (f : Int → Int → D) : DR := fun x y M P => ∃ i j, x = .int i ∧ y = .int j ∧ P (f i j) M
def rIC1 (C : Int → Int → Prop) (f : Int → Int → D) : DR := fun x y M P => ∃ i j, x = .int i ∧ y = .int j ∧ C i j ∧ P (f i j) M
instance op_I1 {f : Int → Int → V} {g : Int → Int → D} [F : VD f g] : OpD (rI0 f) (V.rI1 g) := ⟨fun S M H x y dx dy P Q w hx hy h k => by
  obtain ⟨i, j, rfl, rfl, p⟩ := h
  cases hx; cases hy
  exact ⟨i, j, rfl, rfl, k _ S M _ H p .refl w (F.run S H i j)⟩⟩
instance op_IC1 {C : Int → Int → Prop} {f : Int → Int → V} {g : Int → Int → D} [F : VD f g] : OpD (rI C f) (rIC1 C g) := ⟨fun S M H x y dx dy P Q w hx hy h k => by
  obtain ⟨i, j, rfl, rfl, c, p⟩ := h
  cases hx; cases hy
  exact ⟨i, j, rfl, rfl, c, k _ S M _ H p .refl w (F.run S H i j)⟩⟩
def rLt1 : DR := fun x y M P => match x, y with
  | .int i, .int j => P (.bl (decide (i < j))) M
  | .str i, .str j => P (.bl (decide (i.cps.toList < j.cps.toList))) M
  | _, _ => False
instance op_lt1 : OpD rLtU rLt1 := ⟨fun S M H x y dx dy P Q w hx hy h k => by
  unfold rLt1 at h
  split at h
  · cases hx; cases hy; exact k _ S M _ H h .refl w (.bl _)
  · cases hx; cases hy; exact k _ S M _ H h .refl w (.bl _)
  · exact h.elim⟩
def isNon : D → Bool
  | .non => true
  | _ => false
theorem isNon_V {S : Addr → Prop} {H : Hp} {x : V} {d : D} (h : Dt S H x d) : decide (x = V.non) = isNon d := by cases h <;> simp [isNon]
def rIsN1 : DR := fun x y M P => y = .non ∧ P (.bl (isNon x)) M
def rNotN1 : DR := fun x y M P => y = .non ∧ P (.bl (!isNon x)) M
instance op_isN1' : OpD rIsN rIsN1 := ⟨fun S M H x y dx dy P Q w hx hy h k => by
  obtain ⟨rfl, p⟩ := h
  cases hy
  refine ⟨rfl, ?_⟩
  rw [isNon_V hx]
  exact k _ S M _ H p .refl w (.bl _)⟩
instance op_notN1' : OpD rNotN rNotN1 := ⟨fun S M H x y dx dy P Q w hx hy h k => by
  obtain ⟨rfl, p⟩ := h
  cases hy
  refine ⟨rfl, ?_⟩
  rw [isNon_V hx]
  exact k _ S M _ H p .refl w (.bl _)⟩
def rIsB1 : DR := fun x y M P => ∃ a b, x = .bl a ∧ y = .bl b ∧ P (.bl (decide (a = b))) M
def rNotB1 : DR := fun x y M P => ∃ a b, x = .bl a ∧ y = .bl b ∧ P (.bl (!decide (a = b))) M
instance op_isB1 : OpD rIsB rIsB1 := ⟨fun S M H x y dx dy P Q w hx hy h k => by
  obtain ⟨a, b, rfl, rfl, p⟩ := h
  cases hx; cases hy
  exact ⟨a, b, rfl, rfl, k _ S M _ H p .refl w (.bl _)⟩⟩
instance op_notB1 : OpD rNotB rNotB1 := ⟨fun S M H x y dx dy P Q w hx hy h k => by
  obtain ⟨a, b, rfl, rfl, p⟩ := h
  cases hx; cases hy
  exact ⟨a, b, rfl, rfl, k _ S M _ H p .refl w (.bl _)⟩⟩
def flatD : D → Bool
  | .non => true
  | .bl _ => true
  | .int _ => true
  | .str _ => true
  | _ => false
section
variable {S : Addr → Prop} {H : Hp}
theorem flat_V {v : V} {d : D} (h : Dt S H v d) (f : flatD d = true) : flatV v = true := by
  cases h <;> first | rfl | cases f
theorem flats_V : ∀ {vs : List V} {ds : List D}, DtA S H vs ds → ds.all flatD = true → vs.all flatV = true
  | _, _, .nil, _ => rfl
  | _, _, .cons h t, f => by
    rw [List.all_cons, Bool.and_eq_true] at f
    rw [List.all_cons, flat_V h f.1, flats_V t f.2]
    rfl
theorem eqV_D {v u : V} {d e : D} (h : Dt S H v d) (k : Dt S H u e) (f : flatD d = true) (g : flatD e = true) : eqV v u = D.eqb d e := by
  cases h <;> first | (cases f; done) | (cases k <;> first | (cases g; done) | (first | rfl | (rw [D.eqb] <;> first | rfl | simp [eqV])))
theorem inV_D {v : V} {d : D} (h : Dt S H v d) (f : flatD d = true) : ∀ {vs : List V} {ds : List D}, DtA S H vs ds → ds.all flatD = true → inV v vs = ds.any fun e => D.eqb e d
  | _, _, .nil, _ => rfl
  | _, _, .cons h1 t, g => by
    rw [List.all_cons, Bool.and_eq_true] at g
    show (eqV _ v || inV v _) = _
    rw [List.any_cons, inV_D h f t g.2, eqV_D h1 h g.1 f]
end
def inR (M : Mem) (x y : D) (P : Bool → Prop) : Prop := match y with
  | .str z => ∃ c, x = .str (one c) ∧ P (decide (c ∈ cd z))
  | y => ∃ ys, isSq M y ys ∧ flatD x = true ∧ ys.all flatD = true ∧ P (ys.any fun e => D.eqb e x)
def rIn1 : DR := fun x y M P => inR M x y fun b => P (.bl b) M
def rNin1 : DR := fun x y M P => inR M x y fun b => P (.bl (!b)) M
theorem inR_go {S : Addr → Prop} {M : Mem} {H : Hp} {K : PySem.W.Frag} (w : Wo S M H) {x y : V} {dx dy : D} {P : Bool → Prop} (hx : Dt S H x dx) (hy : Dt S H y dy) (h : inR M dx dy P) :
    (∃ z c, y = .str z ∧ x = .str ⟨#[c]⟩ ∧ P (decide (c ∈ z.cps.toList))) ∨ ∃ p xs, y = .ref p ∧ (SqL K H p xs ∨ SqT K H p xs) ∧ flatV x = true ∧ xs.all flatV = true ∧ P (inV x xs) := by
  unfold inR at h
  split at h
  · rename_i z
    obtain ⟨c, rfl, p⟩ := h
    cases hx; cases hy
    exact .inl ⟨z, c, rfl, rfl, p⟩
  · obtain ⟨ys, hs, f, g, p⟩ := h
    obtain ⟨a, vs, rfl, ha, hv⟩ := sq_get w hy hs
    refine .inr ⟨a, vs, rfl, ?_, flat_V hx f, flats_V hv g, by rw [inV_D hx f hv g]; exact p⟩
    rcases ha with ha | ha
    · exact .inl (SqL.of ha)
    · exact .inr (Or.inl ha)
instance op_in1 {K : PySem.W.Frag} : OpD (rInU K) rIn1 := ⟨fun S M H x y dx dy P Q w hx hy h k => by
  rcases inR_go (K := K) w hx hy h with ⟨z, c, rfl, rfl, p⟩ | ⟨a, xs, rfl, h1, h2, h3, p⟩
  · exact ⟨c, rfl, k _ S M _ H p .refl w (.bl _)⟩
  · exact ⟨xs, h1, h2, h3, k _ S M _ H p .refl w (.bl _)⟩⟩
instance op_nin1 {K : PySem.W.Frag} : OpD (rNinU K) rNin1 := ⟨fun S M H x y dx dy P Q w hx hy h k => by
  rcases inR_go (K := K) w hx hy h with ⟨z, c, rfl, rfl, p⟩ | ⟨a, xs, rfl, h1, h2, h3, p⟩
  · exact ⟨c, rfl, k _ S M _ H p .refl w (.bl _)⟩
  · exact ⟨xs, h1, h2, h3, k _ S M _ H p .refl w (.bl _)⟩⟩
/-- in a tuple of texts that the module keeps -/
def rInKT (l : List Str) (a : Addr) (neg : Bool) : R2 := fun x y H Q => y = .ref a ∧ ∃ z, x = .str z ∧ Q (.bl (decide (z ∈ l) != neg)) H
def rInKT1 (l : List Str) (a : Addr) (neg : Bool) : DR := fun x y M P => y = .ptr a ∧ ∃ z, x = .str z ∧ P (.bl (decide (z ∈ l) != neg)) M
instance op_inKT1 {l : List Str} {a : Addr} {neg : Bool} : OpD (rInKT l a neg) (rInKT1 l a neg) := ⟨fun S M H x y dx dy P Q w hx hy h k => by
  obtain ⟨rfl, z, rfl, p⟩ := h
  cases hx; cases hy
  exact ⟨rfl, z, rfl, k _ S M _ H p .refl w (.bl _)⟩⟩
def rIx1 : DR := fun x y M P => match x, y with
  | .str z, .int i => ∃ c, z.length ≤ sizeLine ∧ atI (cd z) i = some c ∧ P (.str (one c)) M
  | x, .int i => ∃ xs d, isSq M x xs ∧ atI xs i = some d ∧ P d M
  | _, _ => False
theorem at_dt {S : Addr → Prop} {H : Hp} {vs : List V} {ds : List D} (h : DtA S H vs ds) {i : Int} {d : D} (e : atI ds i = some d) : ∃ v, atI vs i = some v ∧ Dt S H v d := by
  unfold atI at e ⊢
  rw [h.length]
  cases hi : ixN ds.length i with
  | none => rw [hi] at e; cases e
  | some j =>
    rw [hi] at e
    exact h.get e
instance op_ix1 {K : PySem.W.Frag} : OpD (rIxU K) rIx1 := ⟨fun S M H x y dx dy P Q w hx hy h k => by
  unfold rIx1 at h
  split at h
  · obtain ⟨c, h1, h2, p⟩ := h
    cases hx; cases hy
    exact ⟨c, h1, h2, k _ S M _ H p .refl w (.str _)⟩
  · obtain ⟨xs, d, h1, h2, p⟩ := h
    cases hy
    obtain ⟨a, vs, rfl, ha, hv⟩ := sq_get w hx h1
    obtain ⟨v, e, hd⟩ := at_dt hv h2
    refine ⟨vs, v, ?_, e, k _ S M _ H p .refl w hd⟩
    rcases ha with ha | ha
    · exact .inl (SqL.of ha)
    · exact .inr (Or.inl ha)
  · exact h.elim⟩
theorem dtA_rep {S : Addr → Prop} {H : Hp} {vs : List V} {ds : List D} (h : DtA S H vs ds) : ∀ n, DtA S H (List.replicate n vs).flatten (List.replicate n ds).flatten
  | 0 => .nil
  | n + 1 => by
    rw [List.replicate_succ, List.replicate_succ, List.flatten_cons, List.flatten_cons]
    exact h.append (dtA_rep h n)
def rRep1 : DR := fun x y M P => ∃ xs k, isLs M x xs ∧ y = .int k ∧ -(2 ^ 63) ≤ k ∧ k < 2 ^ 63 ∧ xs.length * k.toNat ≤ sizeLine ∧ P (.lst (List.replicate k.toNat xs).flatten) M
instance op_rep1 : OpD rRep rRep1 := ⟨fun S M H x y dx dy P Q w hx hy h k => by
  obtain ⟨xs, j, h1, rfl, h2, h3, h4, p⟩ := h
  cases hy
  obtain ⟨a, vs, rfl, ha, hv⟩ := ls_get w hx h1
  exact ⟨a, j, vs, rfl, rfl, ha, h2, h3, by rw [hv.length]; exact h4, fun q nq => k _ S M _ _ p (.new nq) (w.new nq) (.lst (w.ns nq) upd_same ((dtA_rep hv _).sm (Same.new nq)))⟩⟩
end V
namespace V
open PySem PySem.Spec PyProof.Rows L2 U StX
def cutG {α : Type} (xs : List α) (lo hi : Option Int) : List α := (xs.drop (HT.sIx xs.length 0 lo)).take (HT.sIx xs.length xs.length hi - HT.sIx xs.length 0 lo)
def rSlZ (K : PySem.W.Frag) : V → Option Int → Option Int → Hp → VK → Prop := fun x lo hi H Q => match x with
  | .str z => z.length ≤ sizeLine ∧ Q (.str (cutS z lo hi)) H
  | x => rSlA K x lo hi H Q ∨ rSlL K x lo hi H Q
theorem sl_Z {X : Cx} {K : PySem.W.Frag} (h : X.K = K) : SlR X (rSlZ K) := by
  subst h
  intro pins s σ H x v vl vu lo hi sl Q I rx hs pl pu h
  cases x with
  | str z => exact sl_str pins s σ H _ v vl vu lo hi sl Q I rx hs pl pu ⟨z, rfl, h.1, h.2⟩
  | _ =>
    rcases h with h | h
    · exact sl_tupA pins s σ H _ v vl vu lo hi sl Q I rx hs pl pu h
    · exact sl_list pins s σ H _ v vl vu lo hi sl Q I rx hs pl pu h
abbrev DO := Dl → Mem → (Option Int → Mem → Prop) → Prop
class PuO (t : TO) (dt : outParam DO) : Prop where
  run : ∀ S M σ δ H (P : Option Int → Mem → Prop) (Q : Option Int → Hp → Prop), Wo S M H → En S H σ δ → dt δ M P → (∀ o S' M' H', P o M' → Step S M H S' M' H' → Wo S' M' H' → Q o H') → t σ H Q
def dNoPart : DO := fun _ M P => P none M
def dPart (a : DE) : DO := fun δ M P => a δ M fun x M1 => ∃ i, x = .int i ∧ P (some i) M1
instance pu_noPart : PuO tNoPart dNoPart := ⟨fun S M σ δ H P Q w e h k => k none S M H h .refl w⟩
instance pu_part {ta : TE} {da : DE} [A : PuE ta da] : PuO (tPart ta) (dPart da) := ⟨fun S M σ δ H P Q w e h k =>
  A.run S M σ δ H _ _ w e h fun d S1 M1 v H1 p1 t1 w1 h1 => by
    obtain ⟨i, rfl, p1⟩ := p1
    cases h1
    exact ⟨i, rfl, k _ S1 M1 H1 p1 t1 w1⟩⟩
def rSl1 (x : D) (lo hi : Option Int) (M : Mem) (P : QD) : Prop := match x with
  | .str z => z.length ≤ sizeLine ∧ P (.str (cutS z lo hi)) M
  | .tup xs => P (.tup (cutG xs lo hi)) M
  | x => ∃ xs, isLs M x xs ∧ P (.lst (cutG xs lo hi)) M
def dSl (a : DE) (l h : DO) : DE := fun δ M P => a δ M fun x M1 => l δ M1 fun lo M2 => h δ M2 fun hi M3 => rSl1 x lo hi M3 P
theorem dtA_cut {S : Addr → Prop} {H : Hp} {vs : List V} {ds : List D} (h : DtA S H vs ds) (lo hi : Option Int) : DtA S H (cutV vs lo hi) (cutG ds lo hi) := by
  unfold cutV cutG
  rw [h.length]
  exact (h.drop _).take _
theorem cutG_whole {α : Type} {xs : List α} {lo hi : Option Int} (h : HT.sIx xs.length 0 lo = 0 ∧ HT.sIx xs.length xs.length hi = xs.length) : cutG xs lo hi = xs := by
  unfold cutG
  rw [h.1, h.2, List.drop_zero, Nat.sub_zero, List.take_length]
instance pu_sl {K : PySem.W.Frag} {ta : TE} {tl th : TO} {da : DE} {dl dh : DO} [A : PuE ta da] [B : PuO tl dl] [C : PuO th dh] : PuE (tSl (rSlZ K) ta tl th) (dSl da dl dh) := ⟨fun S M σ δ H P Q w e h k =>
  A.run S M σ δ H _ _ w e h fun d S1 M1 v H1 p1 t1 w1 h1 =>
    B.run S1 M1 σ δ H1 _ _ w1 (e.step w t1) p1 fun lo S2 M2 H2 p2 t2 w2 =>
      C.run S2 M2 σ δ H2 _ _ w2 (e.step w (t1.trans t2)) p2 fun hi S3 M3 H3 p3 t3 w3 => by
        have h3 := dt_step w1 (t2.trans t3) _ h1
        have k3 := k.go ((t1.trans t2).trans t3)
        unfold rSl1 at p3
        split at p3
        · cases h3
          exact ⟨p3.1, k3 _ S3 M3 _ H3 p3.2 .refl w3 (.str _)⟩
        · rename_i xs
          cases h3 with
          | @tup a vs _ n ha hs =>
            have el := hs.length
            refine .inl ⟨a, vs, rfl, SqT.of ha, fun c => ?_, fun c p np => ?_⟩
            · rw [el] at c
              rw [cutG_whole c] at p3
              exact k3 _ S3 M3 _ H3 p3 .refl w3 (.tup n ha hs)
            · exact k3 _ S3 M3 _ _ p3 (.new np) (w3.new np) (.tup (w3.ns np) upd_same ((dtA_cut hs lo hi).sm (Same.new np)))
        · obtain ⟨xs, h4, p3⟩ := p3
          obtain ⟨a, vs, rfl, ha, hs⟩ := ls_get w3 h3 h4
          exact .inr ⟨a, vs, rfl, SqL.of ha, fun p np => k3 _ S3 M3 _ _ p3 (.new np) (w3.new np) (.lst (w3.ns np) upd_same ((dtA_cut hs lo hi).sm (Same.new np)))⟩⟩
def dRevT (a : DE) : DE := fun δ M P => a δ M fun x M1 => ∃ xs, x = .tup xs ∧ P (.tup xs.reverse) M1
def dRevL (a : DE) : DE := fun δ M P => a δ M fun x M1 => ∃ xs, isLs M1 x xs ∧ P (.lst xs.reverse) M1
instance pu_revL {K : PySem.W.Frag} {ta : TE} {da : DE} [A : PuE ta da] : PuE (tRevL K ta) (dRevL da) := ⟨fun S M σ δ H P Q w e h k =>
  A.run S M σ δ H _ _ w e h fun d S1 M1 v H1 p1 t1 w1 h1 => by
    obtain ⟨xs, h2, p1⟩ := p1
    obtain ⟨a, vs, rfl, ha, hs⟩ := ls_get w1 h1 h2
    exact ⟨a, vs, rfl, SqL.of ha, fun p np => k _ S1 M1 _ _ p1 (t1.trans (.new np)) (w1.new np) (.lst (w1.ns np) upd_same (hs.reverse.sm (Same.new np)))⟩⟩
def lkD : List Str → List D → Str → Option D
  | n :: ns, d :: ds, f => if f = n then some d else lkD ns ds f
  | _, _, _ => none
theorem lk_get {S : Addr → Prop} {H : Hp} {f : Str} {d : D} : ∀ {fs : List (Str × V)} {ns : List Str} {ds : List D}, fs.map (·.1) = ns → DtA S H (fs.map (·.2)) ds → lkD ns ds f = some d → ∃ v, fs.lookup f = some v ∧ Dt S H v d
  | [], [], [], _, _, h => by cases h
  | (n, v) :: fs, m :: ns, d' :: ds, e, .cons h1 t, h => by
    rw [List.map_cons, List.cons.injEq] at e
    obtain ⟨rfl, e⟩ := e
    unfold lkD at h
    by_cases c : f = n
    · rw [if_pos c] at h
      cases h
      refine ⟨v, ?_, h1⟩
      subst c
      simp
    · rw [if_neg c] at h
      obtain ⟨u, h2, h3⟩ := lk_get e t h
      refine ⟨u, ?_, h3⟩
      rw [List.lookup_cons]
      have : (f == n) = false := by simpa using c
      simp only [this]
      exact h2
def putD (f : Str) (d : D) : List (Str × D) → List (Str × D)
  | [] => [(f, d)]
  | (n, e) :: r => if n = f then (n, d) :: r else (n, e) :: putD f d r
/-- an instance, still or changing -/
def isIn (M : Mem) (x : D) (C : Addr) (ns : List Str) (ds : List D) : Prop := x = .ins C ns ds ∨ ∃ a fs, x = .ptr a ∧ M a = some (.ins C fs) ∧ ns = fs.map (·.1) ∧ ds = fs.map (·.2)
theorem in_get {S : Addr → Prop} {M : Mem} {H : Hp} (w : Wo S M H) {v : V} {x : D} {C : Addr} {ns : List Str} {ds : List D} (h : Dt S H v x) (e : isIn M x C ns ds) : ∃ a dx fs, v = .ref a ∧ H a = some (.ins C dx fs) ∧ fs.map (·.1) = ns ∧ DtA S H (fs.map (·.2)) ds := by
  rcases e with rfl | ⟨a, fs, rfl, e, rfl, rfl⟩
  · cases h with
    | ins n ha hn hs => exact ⟨_, _, _, rfl, ha, hn, hs⟩
  · cases h
    obtain ⟨_, dx, gs, h1, h2, h3⟩ := w.mem a _ e
    exact ⟨a, dx, gs, rfl, h1, h2, h3⟩
theorem lk_of {f : Str} {d : D} : ∀ {ns : List Str} {ds : List D} {k : Nat}, ns.Nodup → ns[k]? = some f → ds[k]? = some d → lkD ns ds f = some d
  | [], _, k, _, h, _ => by simp at h
  | n :: ns, [], k, _, _, h => by simp at h
  | n :: ns, e :: ds, 0, nd, h, h2 => by
    simp at h h2
    subst h
    subst h2
    unfold lkD
    rw [if_pos rfl]
  | n :: ns, e :: ds, k + 1, nd, h, h2 => by
    rw [List.getElem?_cons_succ] at h h2
    have hn := List.nodup_cons.mp nd
    have : f ≠ n := fun z => hn.1 (by rw [← z]; exact List.mem_of_getElem? h)
    unfold lkD
    rw [if_neg this]
    exact lk_of hn.2 h h2
def rFld1 (K : PySem.W.Frag) (f : Str) (x : D) (M : Mem) (P : QD) : Prop := ∃ C ns ds d, isIn M x C ns ds ∧ Cls K C ∧ NoAttr K C f ∧ (∃ k : Nat, ns.Nodup ∧ ns[k]? = some f ∧ ds[k]? = some d) ∧ P d M
def dFld (K : PySem.W.Frag) (a : DE) (f : Str) : DE := fun δ M P => a δ M fun x M1 => rFld1 K f x M1 P
instance pu_fld {K : PySem.W.Frag} {ta : TE} {da : DE} {f : Str} [A : PuE ta da] : PuE (tFld K ta f) (dFld K da f) := ⟨fun S M σ δ H P Q w e h k =>
  A.run S M σ δ H _ _ w e h fun d S1 M1 v H1 p1 t1 w1 h1 => by
    obtain ⟨C, ns, ds, d, h2, c, n, ⟨_, l1, l2, l3⟩, p1⟩ := p1
    obtain ⟨a, dx, fs, rfl, ha, hn, hs⟩ := in_get w1 h1 h2
    obtain ⟨v, hv, hd⟩ := lk_get hn hs (lk_of l1 l2 l3)
    exact ⟨a, C, dx, fs, v, rfl, ha, c, n, hv, k _ S1 M1 _ H1 p1 t1 w1 hd⟩⟩
def lenR (M : Mem) (d : D) (P : Int → Prop) : Prop := match d with
  | .str z => z.length ≤ sizeLine ∧ P z.length
  | x => ∃ xs, isSq M x xs ∧ P xs.length
def rLen1 : DC := fun ds M P => ∃ d, ds = [d] ∧ lenR M d fun i => P (.int i) M
instance cb_len {K : PySem.W.Frag} : CbD (rLenU K) rLen1 := ⟨fun S M H vs ds P Q w hv h k => by
  obtain ⟨d, rfl, h⟩ := h
  match hv with
  | .cons h1 .nil =>
    unfold V.lenR at h
    split at h
    · cases h1
      exact ⟨h.1, k _ S M _ H h.2 .refl w (.int _)⟩
    · obtain ⟨xs, h2, p⟩ := h
      obtain ⟨a, us, rfl, ha, hs⟩ := sq_get w h1 h2
      refine ⟨us, ?_, ?_⟩
      · rcases ha with ha | ha
        · exact .inl (SqL.of ha)
        · exact .inr (Or.inl ha)
      · rw [hs.length]
        exact k _ S M _ H p .refl w (.int _)⟩
def rAll1 : DC := fun ds M P => ∃ (x : D) (bs : List Bool), ds = [x] ∧ isLs M x (bs.map D.bl) ∧ P (.bl (bs.all id)) M
def rAny1 : DC := fun ds M P => ∃ (x : D) (bs : List Bool), ds = [x] ∧ isLs M x (bs.map D.bl) ∧ P (.bl (bs.any id)) M
instance cb_all {K : PySem.W.Frag} : CbD (rAll K) rAll1 := ⟨fun S M H vs ds P Q w hv h k => by
  obtain ⟨x, bs, rfl, h2, p⟩ := h
  match hv with
  | .cons h1 .nil =>
    obtain ⟨a, us, rfl, ha, hs⟩ := ls_get w h1 h2
    have e := hs.bls_eq
    subst e
    exact ⟨a, bs, rfl, SqL.of ha, k _ S M _ H p .refl w (.bl _)⟩⟩
instance cb_any {K : PySem.W.Frag} : CbD (rAny K) rAny1 := ⟨fun S M H vs ds P Q w hv h k => by
  obtain ⟨x, bs, rfl, h2, p⟩ := h
  match hv with
  | .cons h1 .nil =>
    obtain ⟨a, us, rfl, ha, hs⟩ := ls_get w h1 h2
    have e := hs.bls_eq
    subst e
    exact ⟨a, bs, rfl, SqL.of ha, k _ S M _ H p .refl w (.bl _)⟩⟩
def rMax1 : DC := fun ds M P => ∃ (x : D) (ns : List Int), ds = [x] ∧ isLs M x (ns.map D.int) ∧ 0 < ns.length ∧ ∀ m, m ∈ ns → (∀ y, y ∈ ns → y ≤ m) → P (.int m) M
def rMin1 : DC := fun ds M P => ∃ (x : D) (ns : List Int), ds = [x] ∧ isLs M x (ns.map D.int) ∧ 0 < ns.length ∧ ∀ m, m ∈ ns → (∀ y, y ∈ ns → m ≤ y) → P (.int m) M
instance cb_max {K : PySem.W.Frag} : CbD (rMax K) rMax1 := ⟨fun S M H vs ds P Q w hv h k => by
  obtain ⟨x, ns, rfl, h2, hl, p⟩ := h
  match hv with
  | .cons h1 .nil =>
    obtain ⟨a, us, rfl, ha, hs⟩ := ls_get w h1 h2
    have e := hs.ints_eq
    subst e
    exact ⟨a, ns, rfl, SqL.of ha, hl, fun m hm hx => k _ S M _ H (p m hm hx) .refl w (.int _)⟩⟩
instance cb_min {K : PySem.W.Frag} : CbD (rMin K) rMin1 := ⟨fun S M H vs ds P Q w hv h k => by
  obtain ⟨x, ns, rfl, h2, hl, p⟩ := h
  match hv with
  | .cons h1 .nil =>
    obtain ⟨a, us, rfl, ha, hs⟩ := ls_get w h1 h2
    have e := hs.ints_eq
    subst e
    exact ⟨a, ns, rfl, SqL.of ha, hl, fun m hm hx => k _ S M _ H (p m hm hx) .refl w (.int _)⟩⟩
def rSum1 : DC := fun ds M P => ∃ (x : D) (ns : List Int), ds = [x] ∧ isLs M x (ns.map D.int) ∧ P (.int ns.sum) M
instance cb_sum {K : PySem.W.Frag} : CbD (rSum K) rSum1 := ⟨fun S M H vs ds P Q w hv h k => by
  obtain ⟨x, ns, rfl, h2, p⟩ := h
  match hv with
  | .cons h1 .nil =>
    obtain ⟨a, us, rfl, ha, hs⟩ := ls_get w h1 h2
    have e := hs.ints_eq
    subst e
    exact ⟨a, ns, rfl, SqL.of ha, k _ S M _ H p .refl w (.int _)⟩⟩
class VD1 (f : Int → V) (g : outParam (Int → D)) : Prop where
  run : ∀ S H i, Dt S H (f i) (g i)
instance vd1_int {f : Int → Int} : VD1 (fun i => .int (f i)) (fun i => .int (f i)) := ⟨fun _ _ _ => .int _⟩
def rI11 (g : Int → D) : DC := fun ds M P => ∃ i, ds = [.int i] ∧ P (g i) M
def rI21 (g : Int → Int → D) : DC := fun ds M P => ∃ i j, ds = [.int i, .int j] ∧ P (g i j) M
instance cb_I1 {f : Int → V} {g : Int → D} [F : VD1 f g] : CbD (U.rI1 f) (rI11 g) := ⟨fun S M H vs ds P Q w hv h k => by
  obtain ⟨i, rfl, p⟩ := h
  match hv with
  | .cons h1 .nil =>
    cases h1
    exact k _ S M _ H p .refl w (F.run S H i)⟩
instance cb_I2 {f : Int → Int → V} {g : Int → Int → D} [F : VD f g] : CbD (rI2 f) (rI21 g) := ⟨fun S M H vs ds P Q w hv h k => by
  obtain ⟨i, j, rfl, p⟩ := h
  match hv with
  | .cons h1 (.cons h2 .nil) =>
    cases h1
    cases h2
    exact k _ S M _ H p .refl w (F.run S H i j)⟩
instance cb_int1 : CbD rInt1 (rI11 fun i => .int i) := ⟨fun S M H vs ds P Q w hv h k => by
  obtain ⟨i, rfl, p⟩ := h
  match hv with
  | .cons h1 .nil =>
    cases h1
    exact k _ S M _ H p .refl w (.int i)⟩
def dNeg (a : DE) : DE := fun δ M P => a δ M fun x M1 => ∃ i, x = .int i ∧ P (.int (-i)) M1
instance pu_neg {ta : TE} {da : DE} [A : PuE ta da] : PuE (tUn (rU fun i => .int (-i)) ta) (dNeg da) := ⟨fun S M σ δ H P Q w e h k =>
  A.run S M σ δ H _ _ w e h fun d S1 M1 v H1 p1 t1 w1 h1 => by
    obtain ⟨i, rfl, p1⟩ := p1
    cases h1
    exact ⟨i, rfl, k _ S1 M1 _ H1 p1 t1 w1 (.int _)⟩⟩
def listR (M : Mem) (d : D) (P : List D → Prop) : Prop := match d with
  | .str z => z.length ≤ sizeLine ∧ P ((cd z).map sgn)
  | x => ∃ xs, isSq M x xs ∧ P xs
def rList1 : DC := fun ds M P => ∃ d, ds = [d] ∧ listR M d fun xs => P (.lst xs) M
instance cb_list {K : PySem.W.Frag} : CbD (rListU K) rList1 := ⟨fun S M H vs ds P Q w hv h k => by
  obtain ⟨d, rfl, h⟩ := h
  match hv with
  | .cons h1 .nil =>
    unfold listR at h
    split at h
    · cases h1
      exact ⟨h.1, fun l nl => k _ S M _ _ h.2 (.new nl) (w.new nl) (.lst (w.ns nl) upd_same ((dt_signsV (S := S) (H := H) _).sm (Same.new nl)))⟩
    · obtain ⟨xs, h2, p⟩ := h
      obtain ⟨a, us, rfl, ha, hs⟩ := sq_get w h1 h2
      refine ⟨us, ?_, fun l nl => k _ S M _ _ p (.new nl) (w.new nl) (.lst (w.ns nl) upd_same (hs.sm (Same.new nl)))⟩
      rcases ha with ha | ha
      · exact .inl (SqL.of ha)
      · exact .inr (Or.inl ha)⟩
/-- str(n) -/
def rStr1 : List V → Hp → VK → Prop := fun xs H Q => ∃ i, xs = [.int i] ∧ i.natAbs.log2 < 1920 ∧ Q (.str (toString i)) H
def rStrD : DC := fun ds M P => ∃ i, ds = [.int i] ∧ i.natAbs.log2 < 1920 ∧ P (.str (Str.ofString (toString i))) M
instance cb_str : CbD rStr1 rStrD := ⟨fun S M H vs ds P Q w hv h k => by
  obtain ⟨i, rfl, hl, p⟩ := h
  match hv with
  | .cons h1 .nil =>
    cases h1
    exact ⟨i, rfl, hl, k _ S M _ H p .refl w (.str _)⟩⟩
/-- tuple(x) -/
def kTup1 (x : D) (M : Mem) (P : QD) : Prop := ∃ xs, (x = .lst xs ∨ x = .tup xs ∨ ∃ a, x = .ptr a ∧ M a = some (.lst xs)) ∧ P (.tup xs) M
instance pu_tupOf {K : PySem.W.Frag} {ta : TE} {da : DE} [A : PuE ta da] : PuE (tThen ta (kTup K)) (dThen da kTup1) := ⟨fun S M σ δ H P Q w e h k =>
  A.run S M σ δ H _ _ w e h fun d S1 M1 v H1 p1 t1 w1 h1 => by
    obtain ⟨xs, h2, p1⟩ := p1
    rcases h2 with rfl | rfl | ⟨a, rfl, h2⟩
    · cases h1 with
      | lst n ha hs => exact .inl ⟨_, _, rfl, SqL.of ha, fun p np => k _ S1 M1 _ _ p1 (t1.trans (.new np)) (w1.new np) (.tup (w1.ns np) upd_same (hs.sm (Same.new np)))⟩
    · cases h1 with
      | tup n ha hs => exact .inr ⟨_, _, rfl, SqT.of ha, k _ S1 M1 _ _ p1 t1 w1 (.tup n ha hs)⟩
    · cases h1
      obtain ⟨_, vs, ha, hs⟩ := w1.mem a _ h2
      exact .inl ⟨_, _, rfl, SqL.of ha, fun p np => k _ S1 M1 _ _ p1 (t1.trans (.new np)) (w1.new np) (.tup (w1.ns np) upd_same (hs.sm (Same.new np)))⟩⟩
/-- list(range(n)) -/
abbrev TR := L2.St → Hp → (Int → Int → Hp → Prop) → Prop
abbrev DRg := Dl → Mem → (Int → Int → Mem → Prop) → Prop
class PuRg (t : TR) (dt : outParam DRg) : Prop where
  run : ∀ S M σ δ H (P : Int → Int → Mem → Prop) (Q : Int → Int → Hp → Prop), Wo S M H → En S H σ δ → dt δ M P → (∀ i j S' M' H', P i j M' → Step S M H S' M' H' → Wo S' M' H' → Q i j H') → t σ H Q
def dRg1 (a : DE) : DRg := fun δ M P => a δ M fun x M1 => ∃ n, x = .int n ∧ P 0 n M1
def dRg2 (a b : DE) : DRg := fun δ M P => a δ M fun x M1 => b δ M1 fun y M2 => ∃ i j, x = .int i ∧ y = .int j ∧ P i j M2
instance pu_rg1 {ta : TE} {da : DE} [A : PuE ta da] : PuRg (tRg1 ta) (dRg1 da) := ⟨fun S M σ δ H P Q w e h k =>
  A.run S M σ δ H _ _ w e h fun d S1 M1 v H1 p1 t1 w1 h1 => by
    obtain ⟨i, rfl, p1⟩ := p1
    cases h1
    exact ⟨i, rfl, k _ _ S1 M1 H1 p1 t1 w1⟩⟩
instance pu_rg2 {ta tb : TE} {da db : DE} [A : PuE ta da] [B : PuE tb db] : PuRg (tRg2 ta tb) (dRg2 da db) := ⟨fun S M σ δ H P Q w e h k =>
  A.run S M σ δ H _ _ w e h fun d S1 M1 v H1 p1 t1 w1 h1 =>
    B.run S1 M1 σ δ H1 _ _ w1 (e.step w t1) p1 fun d2 S2 M2 v2 H2 p2 t2 w2 h2 => by
      obtain ⟨i, j, rfl, rfl, p2⟩ := p2
      cases h1
      cases h2
      exact ⟨i, j, rfl, rfl, k _ _ S2 M2 H2 p2 (t1.trans t2) w2⟩⟩
def rgD (i j : Int) : List D := (List.range (j - i).toNat).map fun k => D.int (i + (k : Nat))
theorem dt_rgD {S : Addr → Prop} {H : Hp} (i j : Int) : DtA S H (rgV i j) (rgD i j) := by
  unfold rgV rgD
  generalize (j - i).toNat = n
  have : ∀ l : List Nat, DtA S H (l.map fun k => V.int (i + (k : Nat))) (l.map fun k => D.int (i + (k : Nat))) := fun l => by
    induction l with
    | nil => exact .nil
    | cons a l ih => exact .cons (.int _) ih
  exact this _
def dLstRg (t : DRg) : DE := fun δ M P => t δ M fun a b M1 => RgOk a b ∧ P (.lst (rgD a b)) M1
instance pu_lstRg {t : TR} {dt : DRg} [A : PuRg t dt] : PuE (tLstRg t) (dLstRg dt) := ⟨fun S M σ δ H P Q w e h k =>
  A.run S M σ δ H _ _ w e h fun i j S1 M1 H1 p1 t1 w1 => ⟨p1.1, fun p np => k _ S1 M1 _ _ p1.2 (t1.trans (.new np)) (w1.new np) (.lst (w1.ns np) upd_same ((dt_rgD i j).sm (Same.new np)))⟩⟩
/-- isinstance(x, C): what is known of x's class -/
inductive TyD (K : PySem.W.Frag) (M : Mem) : D → Value → Prop where
  | non : TyD K M .non (.type "NoneType")
  | bl (b : Bool) : TyD K M (.bl b) (.type "bool")
  | int (i : Int) : TyD K M (.int i) (.type "int")
  | str (x : Str) : TyD K M (.str x) (.type "str")
  | lst (xs : List D) : TyD K M (.lst xs) (.type "list")
  | tup (xs : List D) : TyD K M (.tup xs) (.type "tuple")
  | ftp (xs : List D) : TyD K M (.ftp xs) (.type "tuple")
  | emp (a : Addr) : TyD K M (.opq a (.dK [])) (.type "dict")
  | mlst {a : Addr} {xs : List D} (h : M a = some (.lst xs)) : TyD K M (.ptr a) (.type "list")
  | mdic {a : Addr} {xs : List (Key × D)} (h : M a = some (.dic xs)) : TyD K M (.ptr a) (.type "dict")
  | ins {C : Addr} {x : D} {ns : List Str} {xs : List D} (h : isIn M x C ns xs) (c : C8.InsC K C) : TyD K M x (.ref C)
def rIsi1 (K : PySem.W.Frag) : DC := fun ds M P => match ds with
  | [x, .ty n] => ∃ t b, TyD K M x t ∧ PySem.W.kitOne K t (.type n) = some b ∧ P (.bl b) M
  | [x, .ptr C] => ∃ t b, TyD K M x t ∧ PySem.W.kitOne K t (.ref C) = some b ∧ P (.bl b) M
  | _ => False
theorem tyD_go {S : Addr → Prop} {M : Mem} {H : Hp} {K : PySem.W.Frag} (w : Wo S M H) {v : V} {x : D} {t : Value} (h : Dt S H v x) (ty : TyD K M x t) : TyX K H v t := by
  cases ty with
  | non => cases h; exact .base .non
  | bl b => cases h; exact .base (.bl _)
  | int b => cases h; exact .base (.int _)
  | str b => cases h; exact .base (.str _)
  | lst xs => cases h with
    | lst n ha hs => exact .base (.lst ha)
  | tup xs => cases h with
    | tup n ha hs => exact .base (.tup ha)
  | ftp xs => cases h with
    | ftp n ha hd hs => exact .fTuple ha
  | emp a => cases h with
    | opq n ha => exact .base (.dK ha)
  | mlst hm =>
    cases h
    obtain ⟨_, vs, ha, _⟩ := w.mem _ _ hm
    exact .base (.lst ha)
  | mdic hm =>
    cases h
    obtain ⟨_, vs, ha, _⟩ := w.mem _ _ hm
    exact .base (.dK ha)
  | ins hi c =>
    obtain ⟨a, dx, fs, rfl, ha, _, _⟩ := in_get w h hi
    exact .base (.ins ha c.cl c.ha c.hn c.htk c.hm)
instance cb_isi {K : PySem.W.Frag} : CbD (rIsi K) (rIsi1 K) := ⟨fun S M H vs ds P Q w hv h k => by
  unfold rIsi1 at h
  split at h
  · obtain ⟨t, b, ty, e, p⟩ := h
    match hv with
    | .cons h1 (.cons h2 .nil) =>
      cases h2
      exact ⟨_, _, t, _, b, rfl, .ty _, tyD_go w h1 ty, e, k _ S M _ H p .refl w (.bl _)⟩
  · obtain ⟨t, b, ty, e, p⟩ := h
    match hv with
    | .cons h1 (.cons h2 .nil) =>
      cases h2
      exact ⟨_, _, t, _, b, rfl, .own _, tyD_go w h1 ty, e, k _ S M _ H p .refl w (.bl _)⟩
  · exact h.elim⟩
/-- repr -/
def rRepr1 : DC := fun ds M P => ∃ d p, ds = [d] ∧ D.py (vw M d) = some p ∧ PyData.showable p = true ∧ PyData.hasDict p = false ∧ PyData.depth p ≤ 40 ∧ (PyData.shown p).length ≤ sizeLine ∧ P (.str (PyData.shown p)) M
instance cb_repr {K : PySem.W.Frag} : CbD (rRepr K) rRepr1 := ⟨fun S M H vs ds P Q w hv h k => by
  obtain ⟨d, p, rfl, e, h1, h2, h3, h4, q⟩ := h
  match hv with
  | .cons h0 .nil => exact ⟨_, p, rfl, dt_vw w h0 e, h1, h2, h3, h4, k _ S M _ H q .refl w (.str _)⟩⟩
/-- sep.join(xs) -/
def rJoin1 (x y : D) (M : Mem) (P : QD) : Prop := ∃ a, ∃ ys : List Str, x = .str a ∧ isSq M y (ys.map D.str) ∧ (ys.map (·.length)).sum + ys.length * a.length ≤ 16777216 ∧ P (.str (Txt.join a ys)) M
def dJoin1 (a b : DE) : DE := fun δ M P => a δ M fun x M1 => (∃ z, x = .str z) ∧ b δ M1 fun y M2 => rJoin1 x y M2 P
instance pu_join {K : PySem.W.Frag} {ta tb : TE} {da db : DE} [A : PuE ta da] [B : PuE tb db] : PuE (tM1 (rJoin K) ta tb) (dJoin1 da db) := ⟨fun S M σ δ H P Q w e h k =>
  A.run S M σ δ H _ _ w e h fun d S1 M1 v H1 p1 t1 w1 h1 => by
    obtain ⟨⟨z, rfl⟩, p1⟩ := p1
    cases h1
    refine ⟨⟨z, rfl⟩, B.run S1 M1 σ δ H1 _ _ w1 (e.step w t1) p1 fun d2 S2 M2 v2 H2 p2 t2 w2 h2 => ?_⟩
    obtain ⟨a, ys, ea, hy, hl, p2⟩ := p2
    cases ea
    obtain ⟨p, vs, rfl, ha, hs⟩ := sq_get w2 h2 hy
    have es := hs.strs_eq
    subst es
    refine ⟨z, p, ys, rfl, rfl, ?_, hl, k _ S2 M2 _ H2 p2 (t1.trans t2) w2 (.str _)⟩
    rcases ha with ha | ha
    · exact .inl (SqL.of ha)
    · exact .inr (Or.inl ha)⟩
def dAppend (a : DE) (b : DA) : DE := fun δ M P => a δ M fun x M1 => ∃ l, x = .ptr l ∧ (∃ xs, M1 l = some (.lst xs)) ∧ b δ M1 fun ys M2 => ∃ xs y, ys = [y] ∧ M2 l = some (.lst xs) ∧ xs.length < sizeLine ∧ P .non (mset M2 l (.lst (xs ++ [y])))
instance pu_append {K : PySem.W.Frag} {ta : TE} {tb : TA} {da : DE} {db : DA} [A : PuE ta da] [B : PuA tb db] : PuE (tBM K "list" rAppend ta tb) (dAppend da db) := ⟨fun S M σ δ H P Q w e h k =>
  A.run S M σ δ H _ _ w e h fun d S1 M1 v H1 p1 t1 w1 h1 => by
    obtain ⟨l, rfl, ⟨xs, hx⟩, p1⟩ := p1
    cases h1
    obtain ⟨_, vs, ha, hs⟩ := w1.mem l _ hx
    refine ⟨.inl ⟨rfl, _, SqL.of ha⟩, B.run S1 M1 σ δ H1 _ _ w1 (e.step w t1) p1 fun d2 S2 M2 v2 H2 p2 t2 w2 h2 => ?_⟩
    obtain ⟨xs, y, rfl, hm, hz, p2⟩ := p2
    obtain ⟨sl, vs, ha, hs⟩ := w2.mem l _ hm
    match v2, h2 with
    | [u], .cons h2 .nil =>
      have ex : Ext S2 H2 (upd H2 l (.lst (vs ++ [u]))) := Ext.mut (Ext.refl _) sl
      exact ⟨l, vs, _, rfl, rfl, ha, by rw [hs.length]; exact hz, k _ _ _ _ _ p2 ((t1.trans t2).trans (.change hm)) (w2.change hm ⟨_, upd_same, (hs.snoc h2).go ex⟩) .non⟩⟩
def dFmt (a : DE) : DE := fun δ M P => a δ M fun x M1 => match x with
  | .str y => y.length ≤ sizeLine ∧ P (.str y) M1
  | .int i => i.natAbs.log2 < 1920 ∧ P (.str (Str.ofString (toString i))) M1
  | _ => False
instance pu_fmt {ta : TE} {da : DE} [A : PuE ta da] : PuE (tFmt ta) (dFmt da) := ⟨fun S M σ δ H P Q w e h k =>
  A.run S M σ δ H _ _ w e h fun d S1 M1 v H1 p1 t1 w1 h1 => by
    split at p1
    · cases h1
      exact .inl ⟨_, rfl, p1.1, k _ S1 M1 _ H1 p1.2 t1 w1 (.str _)⟩
    · cases h1
      exact .inr ⟨_, rfl, p1.1, k _ S1 M1 _ H1 p1.2 t1 w1 (.str _)⟩
    · exact p1.elim⟩
def tJoin (ts : List TE) : TE := fun σ H Q => tJs ts Str.empty σ H fun out H1 => Q (.str out) H1
def dJs : List DE → Str → Dl → Mem → (Str → Mem → Prop) → Prop
  | [], acc, _, M, P => P acc M
  | d :: ds, acc, δ, M, P => d δ M fun x M1 => ∃ y : Str, x = .str y ∧ (acc ++ y).length ≤ sizeLine ∧ dJs ds (acc ++ y) δ M1 P
class PuJ (ts : List TE) (ds : outParam (List DE)) : Prop where
  run : ∀ S M σ δ H acc (P : Str → Mem → Prop) (Q : Str → Hp → Prop), Wo S M H → En S H σ δ → dJs ds acc δ M P → (∀ o S' M' H', P o M' → Step S M H S' M' H' → Wo S' M' H' → Q o H') → tJs ts acc σ H Q
instance pu_j0 : PuJ [] [] := ⟨fun S M σ δ H acc P Q w e h k => k _ S M H h .refl w⟩
instance pu_j1 {t : TE} {ts : List TE} {d : DE} {ds : List DE} [A : PuE t d] [B : PuJ ts ds] : PuJ (t :: ts) (d :: ds) := ⟨fun S M σ δ H acc P Q w e h k =>
  A.run S M σ δ H _ _ w e h fun d S1 M1 v H1 p1 t1 w1 h1 => by
    obtain ⟨y, rfl, hz, p1⟩ := p1
    cases h1
    exact ⟨y, rfl, hz, B.run S1 M1 σ δ H1 _ P Q w1 (e.step w t1) p1 fun o S2 M2 H2 p2 t2 w2 => k o S2 M2 H2 p2 (t1.trans t2) w2⟩⟩
def dJoin (ds : List DE) : DE := fun δ M P => dJs ds Str.empty δ M fun out M1 => P (.str out) M1
instance pu_joined {ts : List TE} {ds : List DE} [A : PuJ ts ds] : PuE (tJoin ts) (dJoin ds) := ⟨fun S M σ δ H P Q w e h k =>
  A.run S M σ δ H _ _ _ w e h fun o S1 M1 H1 p1 t1 w1 => k _ S1 M1 _ H1 p1 t1 w1 (.str o)⟩
end V
namespace V
open PySem PySem.Spec PyProof.Rows L2 U StX
abbrev QS := Dl → Mem → Prop
abbrev DG := D → Dl → Mem → QS → Prop
abbrev DGs := List D → Dl → Mem → QS → Prop
/-- only these slots are stored -/
def Onl (sl : List Nat) (σ σ' : L2.St) : Prop := ∀ vs : List Nat, (∀ i ∈ sl, i ∈ vs) → L2.wipe σ' vs = L2.wipe σ vs
class PuG (g : TG) (dg : outParam DG) (sl : outParam (List Nat)) : Prop where
  run : ∀ S M σ δ H v d (P : QS) (R : L2.St → Hp → Prop), Wo S M H → En S H σ δ → Dt S H v d → dg d δ M P → (∀ δ' S' M' σ' H', P δ' M' → Step S M H S' M' H' → Wo S' M' H' → En S' H' σ' δ' → Onl sl σ σ' → R σ' H') → g v σ H R
class PuGs (g : TGs) (dg : outParam DGs) (sl : outParam (List Nat)) : Prop where
  run : ∀ S M σ δ H v d (P : QS) (R : L2.St → Hp → Prop), Wo S M H → En S H σ δ → DtA S H v d → dg d δ M P → (∀ δ' S' M' σ' H', P δ' M' → Step S M H S' M' H' → Wo S' M' H' → En S' H' σ' δ' → Onl sl σ σ' → R σ' H') → g v σ H R
theorem wipe_set (σ : L2.St) (i : Nat) (o : Option V) : ∀ vs : List Nat, i ∈ vs → L2.wipe (σ.set i o) vs = L2.wipe σ vs
  | v :: vs, h => by
    unfold L2.wipe
    by_cases c : i ∈ vs
    · rw [wipe_set σ i o vs c]
    · have e : i = v := (List.mem_cons.mp h).elim id fun z => (c z).elim
      subst e
      have : ∀ vs : List Nat, i ∉ vs → L2.wipe (σ.set i o) vs = (L2.wipe σ vs).set i o := by
        intro vs
        induction vs with
        | nil => intro _; rfl
        | cons w ws ih =>
          intro n
          rw [List.mem_cons, not_or] at n
          unfold L2.wipe
          rw [ih n.2, List.set_comm _ _ n.1]
      rw [this vs c, List.set_set]
def dgN (i : Nat) : DG := fun d δ M P => P (δ.set i (some d)) M
instance pu_gName {i : Nat} : PuG (gName i) (dgN i) [i] := ⟨fun S M σ δ H v d P R w e h p k => k _ S M _ H p .refl w (e.set h) fun vs hv => wipe_set _ _ _ _ (hv i (List.mem_singleton.mpr rfl))⟩
def dgsNil : DGs := fun ds δ M P => ds = [] ∧ P δ M
def dgsCons (g : DG) (r : DGs) : DGs := fun ds δ M P => ∃ d es, ds = d :: es ∧ g d δ M fun δ1 M1 => r es δ1 M1 P
instance pu_gNil : PuGs gNil dgsNil [] := ⟨fun S M σ δ H v d P R w e h p k => by
  obtain ⟨rfl, p⟩ := p
  cases h
  exact ⟨rfl, k _ S M _ H p .refl w e fun _ _ => rfl⟩⟩
instance pu_gCons {g : TG} {gs : TGs} {dg : DG} {dgs : DGs} {s1 s2 : List Nat} [A : PuG g dg s1] [B : PuGs gs dgs s2] : PuGs (gCons g gs) (dgsCons dg dgs) (s1 ++ s2) := ⟨fun S M σ δ H v d P R w e h p k => by
  obtain ⟨x, xs, rfl, p⟩ := p
  cases h with
  | cons h1 h2 =>
    refine ⟨_, _, rfl, A.run S M σ δ H _ x _ _ w e h1 p fun δ1 S1 M1 σ1 H1 p1 t1 w1 e1 o1 => ?_⟩
    refine B.run S1 M1 σ1 δ1 H1 _ xs P _ w1 e1 (dtA_step w t1 _ h2) p1 fun δ2 S2 M2 σ2 H2 p2 t2 w2 e2 o2 => k δ2 S2 M2 σ2 H2 p2 (t1.trans t2) w2 e2 fun vs hv => ?_
    rw [o2 vs fun i hi => hv i (List.mem_append_right _ hi), o1 vs fun i hi => hv i (List.mem_append_left _ hi)]⟩
def dgT (n : Nat) (g : DGs) : DG := fun d δ M P => ∃ xs, d = .tup xs ∧ xs.length = n ∧ g xs δ M P
instance pu_gTup {K : PySem.W.Frag} {n : Nat} {gs : TGs} {dgs : DGs} {s : List Nat} [A : PuGs gs dgs s] : PuG (gTup K n gs) (dgT n dgs) s := ⟨fun S M σ δ H v d P R w e h p k => by
  obtain ⟨xs, rfl, hl, p⟩ := p
  cases h with
  | tup n ha hs => exact ⟨_, _, rfl, SqT.of ha, by rw [hs.length]; exact hl, A.run S M σ δ H _ xs P R w e hs p k⟩⟩
abbrev DS := QS → QD → QS → QS → QS
structure Lk (S : Addr → Prop) (M : Mem) (H : Hp) (nx : QS) (rt : QD) (bk ct : QS) (E : Ends) : Prop where
  nx : ∀ δ' S' M' σ' H', nx δ' M' → Step S M H S' M' H' → Wo S' M' H' → En S' H' σ' δ' → E.nx σ' H'
  rt : AtE S M H rt E.rt
  bk : ∀ δ' S' M' σ' H', bk δ' M' → Step S M H S' M' H' → Wo S' M' H' → En S' H' σ' δ' → E.bk σ' H'
  ct : ∀ δ' S' M' σ' H', ct δ' M' → Step S M H S' M' H' → Wo S' M' H' → En S' H' σ' δ' → E.ct σ' H'
theorem Lk.go {S S' : Addr → Prop} {M M' : Mem} {H H' : Hp} {nx : QS} {rt : QD} {bk ct : QS} {E : Ends} (l : Lk S M H nx rt bk ct E) (t : Step S M H S' M' H') : Lk S' M' H' nx rt bk ct E :=
  ⟨fun a b c d e p t2 w f => l.nx a b c d e p (t.trans t2) w f, l.rt.go t, fun a b c d e p t2 w f => l.bk a b c d e p (t.trans t2) w f, fun a b c d e p t2 w f => l.ct a b c d e p (t.trans t2) w f⟩
class PuS (t : TS) (dt : outParam DS) : Prop where
  run : ∀ S M σ δ H nx rt bk ct (E : Ends), Wo S M H → En S H σ δ → dt nx rt bk ct δ M → Lk S M H nx rt bk ct E → t E σ H
def sNext : DS := fun nx _ _ _ δ M => nx δ M
def sSeq (a b : DS) : DS := fun nx rt bk ct δ M => a (fun δ1 M1 => b nx rt bk ct δ1 M1) rt bk ct δ M
def sBreak : DS := fun _ _ bk _ δ M => bk δ M
def sCont : DS := fun _ _ _ ct δ M => ct δ M
def sDrop (a : DE) : DS := fun nx _ _ _ δ M => a δ M fun _ M1 => nx δ M1
def sRet (a : DE) : DS := fun _ rt _ _ δ M => a δ M rt
def sRetN : DS := fun _ rt _ _ _ M => rt .non M
def sIf (c : DT) (a b : DS) : DS := fun nx rt bk ct δ M => c δ M fun k M1 => if k = true then a nx rt bk ct δ M1 else b nx rt bk ct δ M1
def sNever : DS := fun _ _ _ _ _ _ => False
def sAsg (a : DE) (g : DG) : DS := fun nx _ _ _ δ M => a δ M fun x M1 => g x δ M1 nx
def sPar (i j : Nat) (t : DA) : DS := fun nx _ _ _ δ M => t δ M fun xs M1 => ∃ x y, xs = [x, y] ∧ nx ((δ.set i (some x)).set j (some y)) M1
section
variable {t u : TS} {dt du : DS} {ta : TE} {da : DE} {c : TT} {dc : DT} {g : TG} {dg : DG}
instance pu_next : PuS tNext sNext := ⟨fun S M σ δ H nx rt bk ct E w e h l => l.nx _ S M _ H h .refl w e⟩
instance pu_seq [A : PuS t dt] [B : PuS u du] : PuS (tSeq t u) (sSeq dt du) := ⟨fun S M σ δ H nx rt bk ct E w e h l =>
  A.run S M σ δ H _ _ _ _ _ w e h ⟨fun δ1 S1 M1 σ1 H1 p1 t1 w1 e1 => B.run S1 M1 σ1 δ1 H1 nx rt bk ct E w1 e1 p1 (l.go t1), l.rt, l.bk, l.ct⟩⟩
instance pu_break : PuS tBreak sBreak := ⟨fun S M σ δ H nx rt bk ct E w e h l => l.bk _ S M _ H h .refl w e⟩
instance pu_cont : PuS tCont sCont := ⟨fun S M σ δ H nx rt bk ct E w e h l => l.ct _ S M _ H h .refl w e⟩
instance pu_drop [A : PuE ta da] : PuS (tDrop ta) (sDrop da) := ⟨fun S M σ δ H nx rt bk ct E w e h l =>
  A.run S M σ δ H _ _ w e h fun d S1 M1 v H1 p1 t1 w1 h1 => l.nx _ S1 M1 _ H1 p1 t1 w1 (e.step w t1)⟩
instance pu_ret [A : PuE ta da] : PuS (tRet ta) (sRet da) := ⟨fun S M σ δ H nx rt bk ct E w e h l => A.run S M σ δ H _ _ w e h l.rt⟩
instance pu_retN : PuS tRetN sRetN := ⟨fun S M σ δ H nx rt bk ct E w e h l => l.rt _ S M _ H h .refl w .non⟩
instance pu_ifS [C : PuT c dc] [A : PuS t dt] [B : PuS u du] : PuS (tIfS c t u) (sIf dc dt du) := ⟨fun S M σ δ H nx rt bk ct E w e h l =>
  C.run S M σ δ H _ _ w e h fun b S1 M1 H1 p1 t1 w1 => by
    cases b with
    | true =>
      rw [if_pos rfl] at p1 ⊢
      exact A.run S1 M1 σ δ H1 nx rt bk ct E w1 (e.step w t1) p1 (l.go t1)
    | false =>
      rw [if_neg Bool.false_ne_true] at p1 ⊢
      exact B.run S1 M1 σ δ H1 nx rt bk ct E w1 (e.step w t1) p1 (l.go t1)⟩
instance pu_never : PuS tNever sNever := ⟨fun S M σ δ H nx rt bk ct E w e h l => h.elim⟩
instance pu_asg {sl : List Nat} [A : PuE ta da] [B : PuG g dg sl] : PuS (tAsg ta g) (sAsg da dg) := ⟨fun S M σ δ H nx rt bk ct E w e h l =>
  A.run S M σ δ H _ _ w e h fun d S1 M1 v H1 p1 t1 w1 h1 =>
    B.run S1 M1 σ δ H1 v d _ _ w1 (e.step w t1) h1 p1 fun δ2 S2 M2 σ2 H2 p2 t2 w2 e2 _ => l.nx δ2 S2 M2 σ2 H2 p2 (t1.trans t2) w2 e2⟩
instance pu_par {i j : Nat} {tt : TA} {dd : DA} [A : PuA tt dd] : PuS (tPar i j tt) (sPar i j dd) := ⟨fun S M σ δ H nx rt bk ct E w e h l =>
  A.run S M σ δ H _ _ w e h fun d S1 M1 v H1 p1 t1 w1 h1 => by
    obtain ⟨x, y, rfl, p1⟩ := p1
    match v, h1 with
    | [u, v], .cons h2 (.cons h3 .nil) => exact ⟨u, v, rfl, l.nx _ S1 M1 _ H1 p1 t1 w1 (((e.step w t1).set h2).set h3)⟩⟩
end
/-- x op= e of numbers -/
class IpD (r : TIp) (rd : outParam DR) : Prop where
  run : ∀ S M H x y dx dy P Q, Wo S M H → Dt S H x dx → Dt S H y dy → rd dx dy M P → AtE S M H P Q → r x y H Q
instance ip_I {f : Int → Int → Int} : IpD (ipI f) (V.rI1 fun i j => .int (f i j)) := ⟨fun S M H x y dx dy P Q w hx hy h k => by
  obtain ⟨i, j, rfl, rfl, p⟩ := h
  cases hx; cases hy
  exact ⟨i, j, rfl, rfl, k _ S M _ H p .refl w (.int _)⟩⟩
def sAug (i : Nat) (a : DE) (r : DR) : DS := fun nx _ _ _ δ M => ∃ x, δ[i]? = some (some x) ∧ a δ M fun y M1 => r x y M1 fun z M2 => nx (δ.set i (some z)) M2
instance pu_aug {i : Nat} {ta : TE} {da : DE} {r : TIp} {rd : DR} [A : PuE ta da] [B : IpD r rd] : PuS (tAug i ta r) (sAug i da rd) := ⟨fun S M σ δ H nx rt bk ct E w e h l => by
  obtain ⟨x, hx, p⟩ := h
  obtain ⟨v, hv, hd⟩ := e.at_ i x hx
  refine ⟨v, hv, A.run S M σ δ H _ _ w e p fun d S1 M1 u H1 p1 t1 w1 h1 => ?_⟩
  exact B.run S1 M1 H1 _ _ _ _ _ _ w1 (dt_step w t1 _ hd) h1 p1 fun z S2 M2 y H2 p2 t2 w2 h2 => l.nx _ S2 M2 _ H2 p2 (t1.trans t2) w2 ((e.step w (t1.trans t2)).set h2)⟩
/-- a field of a changing instance -/
def rPut1 (K : PySem.W.Frag) (f : Str) (x y : D) (M : Mem) (P : Mem → Prop) : Prop := ∃ p C fs, x = .ptr p ∧ M p = some (.ins C fs) ∧ Cls K C ∧ NoAttr K C f ∧ fs.length < 1000 ∧ P (mset M p (.ins C (putD f y fs)))
def sFldD (K : PySem.W.Frag) (a v : DE) (f : Str) : DS := fun nx _ _ _ δ M => v δ M fun y M1 => a δ M1 fun x M2 => rPut1 K f x y M2 (nx δ)
theorem put_held {S : Addr → Prop} {H : Hp} {f : Str} {v : V} {d : D} (hd : Dt S H v d) : ∀ {gs : List (Str × V)} {fs : List (Str × D)}, gs.map (·.1) = fs.map (·.1) → DtA S H (gs.map (·.2)) (fs.map (·.2)) → (putF f v gs).map (·.1) = (putD f d fs).map (·.1) ∧ DtA S H ((putF f v gs).map (·.2)) ((putD f d fs).map (·.2))
  | [], [], _, _ => ⟨rfl, .cons hd .nil⟩
  | (n, u) :: gs, (m, e) :: fs, h, .cons h1 t => by
    rw [List.map_cons, List.map_cons, List.cons.injEq] at h
    obtain ⟨h0, h⟩ := h
    have h0 : n = m := h0
    subst h0
    unfold putF putD
    by_cases c : n = f
    · simp only [c, if_true, beq_self_eq_true, List.map_cons]
      exact ⟨by rw [h], .cons hd t⟩
    · have c' : (n == f) = false := by simpa using c
      simp only [c, c', if_false, Bool.false_eq_true, List.map_cons]
      obtain ⟨a, b⟩ := put_held hd h t
      exact ⟨by rw [a], .cons h1 b⟩
theorem map_len {α β γ : Type} {f : α → γ} {g : β → γ} {l : List α} {m : List β} (h : l.map f = m.map g) : l.length = m.length := by
  have := congrArg List.length h
  rwa [List.length_map, List.length_map] at this
instance pu_sfld {K : PySem.W.Frag} {ta tv : TE} {da dv : DE} {f : Str} [A : PuE ta da] [B : PuE tv dv] : PuS (sFld K ta tv f) (sFldD K da dv f) := ⟨fun S M σ δ H nx rt bk ct E w e h l =>
  B.run S M σ δ H _ _ w e h fun d S1 M1 v H1 p1 t1 w1 h1 =>
    A.run S1 M1 σ δ H1 _ _ w1 (e.step w t1) p1 fun d2 S2 M2 v2 H2 p2 t2 w2 h2 => by
      obtain ⟨p, C, fs, rfl, hm, c, n, hl, p2⟩ := p2
      cases h2
      obtain ⟨sp, dx, gs, ha, hn, hs⟩ := w2.mem p _ hm
      have hv := dt_step w1 t2 _ h1
      have ex : Ext S2 H2 (upd H2 p (.ins C dx (putF f v gs))) := Ext.mut (Ext.refl _) sp
      obtain ⟨q1, q2⟩ := put_held (f := f) hv hn hs
      have t3 : Step S2 M2 H2 S2 (mset M2 p (.ins C (putD f d fs))) (upd H2 p (.ins C dx (putF f v gs))) := .change hm
      exact ⟨p, C, dx, gs, rfl, ha, c, n, by rw [map_len hn]; exact hl, l.nx _ _ _ _ _ p2 ((t1.trans t2).trans t3) (w2.change hm ⟨dx, _, upd_same, q1, q2.go ex⟩) (e.step w ((t1.trans t2).trans t3))⟩⟩
/-- while: by an invariant that falls -/
def sWhile (c : DT) (b : DS) : DS := fun nx rt _ _ δ M => ∃ W : Nat → QS, (∃ m, W m δ M) ∧ ∀ m δ M, W m δ M →
  c δ M fun k M1 => if k = true then b (fun δ' M' => ∃ m', m' < m ∧ W m' δ' M') rt nx (fun δ' M' => ∃ m', m' < m ∧ W m' δ' M') δ M1 else nx δ M1
instance pu_while {c : TT} {t : TS} {dc : DT} {dt : DS} [C : PuT c dc] [B : PuS t dt] : PuS (tWhile c t) (sWhile dc dt) := ⟨fun S M σ δ H nx rt bk ct E w e h l => by
  obtain ⟨W, ⟨m0, h0⟩, turn⟩ := h
  refine ⟨fun m σ' H' => ∃ S' M' δ', W m δ' M' ∧ Step S M H S' M' H' ∧ Wo S' M' H' ∧ En S' H' σ' δ', ⟨m0, S, M, δ, h0, .refl, w, e⟩, ?_⟩
  rintro m σ1 H1 ⟨S1, M1, δ1, hW, t1, w1, e1⟩
  refine C.run S1 M1 σ1 δ1 H1 _ _ w1 e1 (turn m δ1 M1 hW) fun b S2 M2 H2 p2 t2 w2 => ?_
  cases b with
  | true =>
    rw [if_pos rfl] at p2 ⊢
    refine ⟨fun σ' H' => ∃ m', m' < m ∧ ∃ S' M' δ', W m' δ' M' ∧ Step S M H S' M' H' ∧ Wo S' M' H' ∧ En S' H' σ' δ', fun σ' H' q => q, ?_⟩
    have t12 := t1.trans t2
    refine B.run S2 M2 σ1 δ1 H2 _ _ _ _ _ w2 (e1.step w1 t2) p2 ⟨?_, l.rt.go t12, fun a b c d e p t3 w f => l.nx a b c d e p (t12.trans t3) w f, ?_⟩
    · rintro δ3 S3 M3 σ3 H3 ⟨m', hm, q⟩ t3 w3 e3
      exact ⟨m', hm, S3, M3, δ3, q, t12.trans t3, w3, e3⟩
    · rintro δ3 S3 M3 σ3 H3 ⟨m', hm, q⟩ t3 w3 e3
      exact ⟨m', hm, S3, M3, δ3, q, t12.trans t3, w3, e3⟩
  | false =>
    rw [if_neg Bool.false_ne_true] at p2 ⊢
    exact l.nx _ S2 M2 _ H2 p2 (t1.trans t2) w2 (e1.step w1 t2)⟩
/-- J walks these data, while G stands -/
structure Walks (J : It) (G : Mem → Prop) (S : Addr → Prop) (M : Mem) (H : Hp) (xs : List D) : Prop where
  stop : ∀ S' M' H', Step S M H S' M' H' → Wo S' M' H' → G M' → J.stop xs.length H'
  go : ∀ i S' M' H', i < xs.length → Step S M H S' M' H' → Wo S' M' H' → G M' → J.go i H'
  yld : ∀ i S' M' H' x H2, i < xs.length → Step S M H S' M' H' → Wo S' M' H' → G M' → J.yld i H' x H2 → Same H' H2 ∧ ∃ d, xs[i]? = some d ∧ Dt S' H2 x d
abbrev DI := Dl → Mem → ((Mem → Prop) → List D → Mem → Prop) → Prop
class PuI (t : TI) (dt : outParam DI) : Prop where
  run : ∀ S M σ δ H (P : (Mem → Prop) → List D → Mem → Prop) (R : It → Hp → Prop), Wo S M H → En S H σ δ → dt δ M P → (∀ G xs S' M' H' J, P G xs M' → Step S M H S' M' H' → Wo S' M' H' → Walks J G S' M' H' xs → R J H') → t σ H R
def rDiL (x : D) (M : Mem) (P : (Mem → Prop) → List D → Mem → Prop) : Prop := (∃ xs, x = .lst xs ∧ P (fun _ => True) xs M) ∨ ∃ p xs, x = .ptr p ∧ M p = some (.lst xs) ∧ P (fun M => M p = some (.lst xs)) xs M
def diL (a : DE) : DI := fun δ M P => a δ M fun x M1 => rDiL x M1 P
def diT (a : DE) : DI := fun δ M P => a δ M fun x M1 => ∃ xs, isTF x xs ∧ P (fun _ => True) xs M1
def diS (a : DE) : DI := fun δ M P => a δ M fun x M1 => ∃ z, x = .str z ∧ P (fun _ => True) ((cd z).map sgn) M1
def diR1 (a : DA) : DI := fun δ M P => a δ M fun xs M1 => ∃ j : Int, xs = [.int j] ∧ -(2 ^ 62) ≤ j ∧ j < 2 ^ 62 ∧ P (fun _ => True) (rgD 0 j) M1
def diR2 (a : DA) : DI := fun δ M P => a δ M fun xs M1 => ∃ i j : Int, xs = [.int i, .int j] ∧ (-(2 ^ 62) ≤ i ∧ i < 2 ^ 62 ∧ -(2 ^ 62) ≤ j ∧ j < 2 ^ 62) ∧ P (fun _ => True) (rgD i j) M1
section
variable {S S' : Addr → Prop} {M M' : Mem} {H H' : Hp} {K : PySem.W.Frag}
theorem at_some {α : Type} {xs : List α} {i : Nat} (h : i < xs.length) : xs[i]? = some xs[i] := by simp [h]
theorem walks_list {a : Addr} {vs : List V} {xs : List D} {G : Mem → Prop} (q : ∀ S' M' H', Step S M H S' M' H' → Wo S' M' H' → G M' → ∃ vs, H' a = some (.lst vs) ∧ DtA S' H' vs xs) : Walks (Itl K a) G S M H xs where
  stop S' M' H' t w g := by
    obtain ⟨vs, h1, h2⟩ := q S' M' H' t w g
    exact ⟨vs, SqL.of h1, by rw [h2.length]; exact Nat.le_refl _⟩
  go i S' M' H' hi t w g := by
    obtain ⟨vs, h1, h2⟩ := q S' M' H' t w g
    have hl := h2.length
    exact ⟨vs, vs[i], SqL.of h1, at_some (by omega)⟩
  yld i S' M' H' x H2 hi t w g y := by
    obtain ⟨vs, h1, h2⟩ := q S' M' H' t w g
    obtain ⟨rfl, y⟩ := y
    obtain ⟨d, e1, e2⟩ := h2.getV (y vs (SqL.of h1))
    exact ⟨Same.refl _, d, e1, e2⟩
theorem walks_tf {a : Addr} {vs : List V} {xs : List D} {G : Mem → Prop} (q : ∀ S' M' H', Step S M H S' M' H' → Wo S' M' H' → G M' → ∃ vs, Rd H' a (.tup vs) ∧ DtA S' H' vs xs) : Walks (Itt K a) G S M H xs where
  stop S' M' H' t w g := by
    obtain ⟨vs, h1, h2⟩ := q S' M' H' t w g
    exact ⟨vs, Or.inl h1, by rw [h2.length]; exact Nat.le_refl _⟩
  go i S' M' H' hi t w g := by
    obtain ⟨vs, h1, h2⟩ := q S' M' H' t w g
    have hl := h2.length
    exact ⟨vs, vs[i], Or.inl h1, at_some (by omega)⟩
  yld i S' M' H' x H2 hi t w g y := by
    obtain ⟨vs, h1, h2⟩ := q S' M' H' t w g
    obtain ⟨rfl, y⟩ := y
    obtain ⟨d, e1, e2⟩ := h2.getV (y vs (Or.inl h1))
    exact ⟨Same.refl _, d, e1, e2⟩
theorem stay_lst (w : Wo S M H) {a : Addr} {xs : List D} (h : Dt S H (.ref a) (.lst xs)) : ∀ S' M' H', Step S M H S' M' H' → Wo S' M' H' → True → ∃ vs, H' a = some (.lst vs) ∧ DtA S' H' vs xs := fun S' M' H' t w' _ => by
  have h' := dt_step w t _ h
  cases h' with
  | lst n ha hs => exact ⟨_, ha, hs⟩
theorem stay_tup (w : Wo S M H) {a : Addr} {xs : List D} (h : Dt S H (.ref a) (.tup xs)) : ∀ S' M' H', Step S M H S' M' H' → Wo S' M' H' → True → ∃ vs, H' a = some (.tup vs) ∧ DtA S' H' vs xs := fun S' M' H' t w' _ => by
  have h' := dt_step w t _ h
  cases h' with
  | tup n ha hs => exact ⟨_, ha, hs⟩
theorem stay_tf (w : Wo S M H) {a : Addr} {x : D} {xs : List D} (h : Dt S H (.ref a) x) (e : isTF x xs) : ∀ S' M' H', Step S M H S' M' H' → Wo S' M' H' → True → ∃ vs, Rd H' a (.tup vs) ∧ DtA S' H' vs xs := fun S' M' H' t w' _ => by
  have h' := dt_step w t _ h
  obtain ⟨b, vs, e1, n, ha, hs⟩ := tf_get h' e
  cases e1
  exact ⟨vs, ha, hs⟩
theorem rgD_get {i j : Int} {k : Nat} (h : k < (rgD i j).length) : (rgD i j)[k]? = some (.int (i + (k : Nat))) := by
  unfold rgD at h ⊢
  rw [List.length_map, List.length_range] at h
  rw [List.getElem?_map, List.getElem?_range h]
  rfl
theorem rgD_len (i j : Int) : (rgD i j).length = (j - i).toNat := by unfold rgD; rw [List.length_map, List.length_range]
theorem walks_rng {lo hi : Int} {n : Nat} (hn : (hi - lo).toNat = n) {G : Mem → Prop} : Walks (Itr lo n) G S M H (rgD lo hi) where
  stop S' M' H' t w g := by rw [rgD_len, hn]; exact Nat.le_refl n
  go i S' M' H' hi t w g := by rw [rgD_len, hn] at hi; exact hi
  yld i S' M' H' x H2 hi t w g y := by
    obtain ⟨rfl, rfl⟩ := y
    exact ⟨Same.refl _, _, rgD_get hi, .int _⟩
theorem walks_str {z : Str} {G : Mem → Prop} : Walks (Its z) G S M H ((cd z).map sgn) where
  stop S' M' H' t w g := by rw [List.length_map]; show z.cps.size ≤ _; rw [cd_size]; exact Nat.le_refl _
  go i S' M' H' hi t w g := by rw [List.length_map] at hi; show i < z.cps.size; rw [cd_size]; exact hi
  yld i S' M' H' x H2 hi t w g y := by
    obtain ⟨rfl, c, hc, rfl⟩ := y
    refine ⟨Same.refl _, sgn c, ?_, .str _⟩
    rw [List.getElem?_map, cd_get hc]
    rfl
end
section
variable {ta : TE} {da : DE} {K : PySem.W.Frag} {tt : TA} {dd : DA}
instance pu_iL [A : PuE ta da] : PuI (iList K ta) (diL da) := ⟨fun S M σ δ H P R w e h k =>
  A.run S M σ δ H _ _ w e h fun d S1 M1 v H1 p1 t1 w1 h1 => by
    rcases p1 with ⟨xs, rfl, p1⟩ | ⟨p, xs, rfl, hm, p1⟩
    · cases h1 with
      | lst n ha hs => exact ⟨_, rfl, ⟨_, SqL.of ha⟩, k _ xs S1 M1 H1 _ p1 t1 w1 (walks_list (vs := []) (stay_lst w1 (.lst n ha hs)))⟩
    · cases h1
      obtain ⟨_, vs, ha, hs⟩ := w1.mem p _ hm
      refine ⟨_, rfl, ⟨_, SqL.of ha⟩, k _ xs S1 M1 H1 _ p1 t1 w1 (walks_list (vs := []) fun S' M' H' t w' g => ?_)⟩
      obtain ⟨_, vs, h1, h2⟩ := w'.mem p _ g
      exact ⟨vs, h1, h2⟩⟩
instance pu_iT [A : PuE ta da] : PuI (iTup K ta) (diT da) := ⟨fun S M σ δ H P R w e h k =>
  A.run S M σ δ H _ _ w e h fun d S1 M1 v H1 p1 t1 w1 h1 => by
    obtain ⟨xs, hx, p1⟩ := p1
    obtain ⟨a, vs, rfl, n, ha, hs⟩ := tf_get h1 hx
    exact ⟨_, rfl, ⟨_, Or.inl ha⟩, k _ xs S1 M1 H1 _ p1 t1 w1 (walks_tf (vs := []) (stay_tf w1 h1 hx))⟩⟩
instance pu_iS [A : PuE ta da] : PuI (iStr ta) (diS da) := ⟨fun S M σ δ H P R w e h k =>
  A.run S M σ δ H _ _ w e h fun d S1 M1 v H1 p1 t1 w1 h1 => by
    obtain ⟨z, rfl, p1⟩ := p1
    cases h1
    exact ⟨z, rfl, k _ _ S1 M1 H1 _ p1 t1 w1 walks_str⟩⟩
instance pu_iR1 [A : PuA tt dd] : PuI (iRng1 tt) (diR1 dd) := ⟨fun S M σ δ H P R w e h k =>
  A.run S M σ δ H _ _ w e h fun d S1 M1 v H1 p1 t1 w1 h1 => by
    obtain ⟨j, rfl, b1, b2, p1⟩ := p1
    match v, h1 with
    | [_], .cons (.int _) .nil => exact ⟨j, rfl, b1, b2, k _ _ S1 M1 H1 _ p1 t1 w1 (walks_rng (by rw [Int.sub_zero]))⟩⟩
instance pu_iR2 [A : PuA tt dd] : PuI (iRng2 tt) (diR2 dd) := ⟨fun S M σ δ H P R w e h k =>
  A.run S M σ δ H _ _ w e h fun d S1 M1 v H1 p1 t1 w1 h1 => by
    obtain ⟨i, j, rfl, b, p1⟩ := p1
    match v, h1 with
    | [_, _], .cons (.int _) (.cons (.int _) .nil) => exact ⟨i, j, rfl, b, k _ _ S1 M1 H1 _ p1 t1 w1 (walks_rng rfl)⟩⟩
end
/-- the turns that are left -/
def dLoop (G : Mem → Prop) (g : DG) (b : DS) (nx : QS) (rt : QD) : List D → QS
  | [], δ, M => nx δ M
  | x :: xs, δ, M => g x δ M fun δ1 M1 => b (fun δ' M' => G M' ∧ dLoop G g b nx rt xs δ' M') rt nx (fun δ' M' => G M' ∧ dLoop G g b nx rt xs δ' M') δ1 M1
def sFor (i : DI) (g : DG) (b : DS) : DS := fun nx rt _ _ δ M => i δ M fun G xs M1 => G M1 ∧ dLoop G g b nx rt xs δ M1
theorem drop_cons {α : Type} {xs : List α} {i : Nat} {x : α} (h : xs[i]? = some x) : xs.drop i = x :: xs.drop (i + 1) := by
  obtain ⟨hi, rfl⟩ := List.getElem?_eq_some_iff.mp h
  exact List.drop_eq_getElem_cons hi
instance pu_for {ti : TI} {g : TG} {t : TS} {di : DI} {dg : DG} {dt : DS} {sl : List Nat} [I : PuI ti di] [A : PuG g dg sl] [B : PuS t dt] : PuS (tFor ti g t) (sFor di dg dt) := ⟨fun S M σ δ H nx rt bk ct E w e h l =>
  I.run S M σ δ H _ _ w e h fun G xs S1 M1 H1 J p1 t1 w1 wk => by
    refine ⟨fun i m σ' H' => i ≤ xs.length ∧ m = xs.length - i ∧ ∃ S' M' δ', G M' ∧ dLoop G dg dt nx rt (xs.drop i) δ' M' ∧ Step S1 M1 H1 S' M' H' ∧ Wo S' M' H' ∧ En S' H' σ' δ', ⟨_, Nat.zero_le _, rfl, S1, M1, δ, p1.1, p1.2, .refl, w1, e.step w t1⟩, ?_⟩
    rintro i m σ2 H2 ⟨hi, rfl, S2, M2, δ2, g2, p2, t2, w2, e2⟩
    by_cases hlt : i < xs.length
    · refine .inr ⟨wk.go i S2 M2 H2 hlt t2 w2 g2, fun σ' H' => ∃ S' M' δ', G M' ∧ dLoop G dg dt nx rt (xs.drop (i + 1)) δ' M' ∧ Step S1 M1 H1 S' M' H' ∧ Wo S' M' H' ∧ En S' H' σ' δ', ?_, ?_⟩
      · rintro σ' H' q
        exact ⟨_, by omega, hlt, rfl, q⟩
      · intro x H3 y
        obtain ⟨same, d, hd, hx⟩ := wk.yld i S2 M2 H2 x H3 hlt t2 w2 g2 y
        rw [drop_cons hd] at p2
        have t3 : Step S2 M2 H2 S2 M2 H3 := .same same
        have w3 := w2.same same
        refine A.run S2 M2 σ2 δ2 H3 x d _ _ w3 (e2.step w2 t3) hx p2 fun δ4 S4 M4 σ4 H4 p4 t4 w4 e4 _ => ?_
        have t14 := (t2.trans t3).trans t4
        refine B.run S4 M4 σ4 δ4 H4 _ _ _ _ _ w4 e4 p4 ⟨?_, l.rt.go (t1.trans t14), fun a b c d e p t5 w f => l.nx a b c d e p ((t1.trans t14).trans t5) w f, ?_⟩
        · rintro δ5 S5 M5 σ5 H5 ⟨g5, p5⟩ t5 w5 e5
          exact ⟨S5, M5, δ5, g5, p5, t14.trans t5, w5, e5⟩
        · rintro δ5 S5 M5 σ5 H5 ⟨g5, p5⟩ t5 w5 e5
          exact ⟨S5, M5, δ5, g5, p5, t14.trans t5, w5, e5⟩
    · have ei : i = xs.length := by omega
      subst ei
      rw [List.drop_length] at p2
      exact .inl ⟨wk.stop S2 M2 H2 t2 w2 g2, l.nx _ S2 M2 _ H2 p2 (t1.trans t2) w2 e2⟩⟩
def dGather (G : Mem → Prop) (g : DG) (t : DT) (a : DE) (vs : List Nat) (δ : Dl) (P : QD) : List D → List D → Mem → Prop
  | [], acc, M => P (.lst acc) M
  | x :: xs, acc, M => g x (wipeD δ vs) M fun δ1 M1 => t δ1 M1 fun b M2 => if b = true then a δ1 M2 fun y M3 => G M3 ∧ dGather G g t a vs δ P xs (acc ++ [y]) M3 else G M2 ∧ dGather G g t a vs δ P xs acc M2
def dLc (i : DI) (g : DG) (t : DT) (a : DE) (vs : List Nat) : DE := fun δ M P => i δ M fun G xs M1 => G M1 ∧ xs.length ≤ 16777216 ∧ dGather G g t a vs δ P xs [] M1
class MemL (i : Nat) (vs : List Nat) : Prop where
  h : i ∈ vs
instance memL_h {i : Nat} {vs : List Nat} : MemL i (i :: vs) := ⟨List.mem_cons_self⟩
instance memL_t {i j : Nat} {vs : List Nat} [A : MemL i vs] : MemL i (j :: vs) := ⟨List.mem_cons_of_mem _ A.h⟩
instance memL_mh {i : Nat} {n : Str} {l : List (Str × Nat)} : MemL i (List.map (fun x => x.2) ((n, i) :: l)) := ⟨by simp⟩
instance memL_mt {i j : Nat} {n : Str} {l : List (Str × Nat)} [A : MemL i (List.map (fun x => x.2) l)] : MemL i (List.map (fun x => x.2) ((n, j) :: l)) := ⟨List.mem_cons_of_mem _ A.h⟩
class SubL (sl vs : List Nat) : Prop where
  h : ∀ i ∈ sl, i ∈ vs
instance subL_nil {vs : List Nat} : SubL [] vs := ⟨fun _ h => by cases h⟩
instance subL_cons {i : Nat} {sl vs : List Nat} [A : MemL i vs] [B : SubL sl vs] : SubL (i :: sl) vs := ⟨fun j h => (List.mem_cons.mp h).elim (fun e => by rw [e]; exact A.h) (B.h j)⟩
instance subL_app {s1 s2 vs : List Nat} [A : SubL s1 vs] [B : SubL s2 vs] : SubL (s1 ++ s2) vs := ⟨fun j h => (List.mem_append.mp h).elim (A.h j) (B.h j)⟩
def dYes : DT := fun _ M P => P true M
instance pu_yes : PuT tYes dYes := ⟨fun S M σ δ H P Q w e h k => k _ S M H h .refl w⟩
theorem wipe_wipe (σ : L2.St) (vs : List Nat) : L2.wipe (L2.wipe σ vs) vs = L2.wipe σ vs := by
  have : ∀ (us : List Nat), (∀ i ∈ us, i ∈ vs) → L2.wipe (L2.wipe σ us) vs = L2.wipe σ vs := by
    intro us
    induction us with
    | nil => intro _; rfl
    | cons u us ih =>
      intro h
      rw [show L2.wipe σ (u :: us) = (L2.wipe σ us).set u none from rfl, wipe_set _ _ _ _ (h u List.mem_cons_self)]
      exact ih fun i hi => h i (List.mem_cons_of_mem _ hi)
  exact this vs fun _ h => h
instance pu_lc {ti : TI} {g : TG} {t : TT} {ta : TE} {di : DI} {dg : DG} {dt : DT} {da : DE} {sl vs : List Nat} [I : PuI ti di] [A : PuG g dg sl] [sub : SubL sl vs] [T : PuT t dt] [B : PuE ta da] : PuE (tLc ti g t ta vs) (dLc di dg dt da vs) := ⟨fun S M σ δ H P Q w e h k =>
  I.run S M σ δ H _ _ w e h fun G xs S1 M1 H1 J p1 t1 w1 wk => by
    intro D0 hD
    obtain ⟨g1, hn, p1⟩ := p1
    -- what stands between the turns
    let Iv : Nat → Hp → Prop := fun i H' => ∃ S' M' acc ws, G M' ∧ dGather G dg dt da vs δ P (xs.drop i) acc M' ∧ Step S1 M1 H1 S' M' H' ∧ Wo S' M' H' ∧ En S' H' σ δ ∧ S' D0 ∧ M' D0 = none ∧ H' D0 = some (.lst ws) ∧ DtA S' H' ws acc ∧ acc.length ≤ i
    refine ⟨fun i m H' => i ≤ xs.length ∧ m = xs.length - i ∧ Iv i H', ⟨_, Nat.zero_le _, rfl, (fun a => S1 a ∨ a = D0), M1, [], [], g1, p1, .apart hD, w1.apart hD, (e.step w t1).step w1 (.apart hD), .inr rfl, w1.fresh hD, upd_same, .nil, Nat.zero_le _⟩, ?_⟩
    rintro i m H2 ⟨hi, rfl, S2, M2, acc, ws, g2, p2, t2, w2, e2, sD, mD, hL, hA, hlen⟩
    by_cases hlt : i < xs.length
    · refine .inr ⟨wk.go i S2 M2 H2 hlt t2 w2 g2, Iv (i + 1), fun H' q => ⟨_, by omega, hlt, rfl, q⟩, ?_⟩
      intro x H3 y
      obtain ⟨same, d, hd, hx⟩ := wk.yld i S2 M2 H2 x H3 hlt t2 w2 g2 y
      rw [drop_cons hd] at p2
      have t3 : Step S2 M2 H2 S2 M2 H3 := .same same
      have w3 := w2.same same
      have e3 := e2.step w2 t3
      refine A.run S2 M2 _ _ H3 x d _ _ w3 (e3.wipe vs) hx p2 fun δ4 S4 M4 σ4 H4 p4 t4 w4 e4 o4 => ⟨by rw [o4 vs sub.h, wipe_wipe], ?_⟩
      refine T.run S4 M4 σ4 δ4 H4 _ _ w4 e4 p4 fun b S5 M5 H5 p5 t5 w5 => ?_
      have t25 := (t3.trans t4).trans t5
      obtain ⟨hL5, mD5, sD5⟩ := t25.keep _ _ mD hL
      have hA5 := dtA_step w2 t25 _ hA
      cases b with
      | true =>
        rw [if_pos rfl] at p5 ⊢
        refine B.run S5 M5 σ4 δ4 H5 _ _ w5 (e4.step w4 t5) p5 fun y S6 M6 v H6 p6 t6 w6 h6 => ?_
        obtain ⟨hL6, mD6, sD6⟩ := t6.keep _ _ mD5 hL5
        have hA6 := dtA_step w5 t6 _ hA5
        have sd : S6 D0 := sD6.mpr (sD5.mpr sD)
        have ex : Ext S6 H6 (upd H6 D0 (.lst (ws ++ [v]))) := Ext.mut (Ext.refl _) sd
        refine ⟨ws, hL6, by rw [hA.length]; exact Nat.lt_of_le_of_lt hlen (Nat.lt_of_lt_of_le hlt (by rw [sizeLine_eq]; exact hn)), S6, M6, acc ++ [y], ws ++ [v], p6.1, p6.2, ?_, ?_, ?_, sd, mD6, upd_same, (hA6.snoc h6).go ex, by rw [List.length_append, List.length_singleton]; omega⟩
        · have t16 := (t2.trans t25).trans t6
          refine ⟨fun b o n hb => ?_⟩
          obtain ⟨q1, q2, q3⟩ := t16.keep b o n hb
          exact ⟨(upd_ne (ne_of_none hb hD)).trans q1, q2, q3⟩
        · refine ⟨fun a s => ?_, fun a mo q => ?_⟩
          · by_cases c : a = D0
            · rw [c, upd_same]; exact fun z => nomatch z
            · rw [upd_ne c]; exact w6.tr a s
          · obtain ⟨s, q2⟩ := w6.mem a mo q
            have c : a ≠ D0 := by rintro rfl; rw [mD6] at q; cases q
            exact ⟨s, held_ext ex (fun u hu => (upd_ne c).trans hu) q2⟩
        · have e6 : En S6 H6 σ δ := e3.step w3 ((t4.trans t5).trans t6)
          exact ⟨e6.len, fun i d h => by
            obtain ⟨v, h1, h2⟩ := e6.at_ i d h
            exact ⟨v, h1, h2.go ex⟩⟩
      | false =>
        rw [if_neg Bool.false_ne_true] at p5 ⊢
        exact ⟨S5, M5, acc, ws, p5.1, p5.2, t2.trans t25, w5, e2.step w2 t25, sD5.mpr sD, mD5, hL5, hA5, by omega⟩
    · have ei : i = xs.length := by omega
      subst ei
      rw [List.drop_length] at p2
      refine .inl ⟨wk.stop S2 M2 H2 t2 w2 g2, k _ (fun a => S2 a ∧ a ≠ D0) M2 _ H2 p2 (t1.trans ⟨fun b o n hb => ?_⟩) ⟨fun a s => w2.tr a s.1, fun a mo q => ?_⟩ (.lst (fun z => z.2 rfl) hL (dtA_freeze hA))⟩
      · obtain ⟨q1, q2, q3⟩ := t2.keep b o n hb
        have c := ne_of_none hb hD
        exact ⟨q1, q2, ⟨fun z => q3.mp z.1, fun z => ⟨q3.mpr z, c⟩⟩⟩
      · obtain ⟨s, q2⟩ := w2.mem a mo q
        have c : a ≠ D0 := by rintro rfl; rw [mD] at q; cases q
        exact ⟨⟨s, c⟩, held_set (fun b n _ z => n z.1) q2⟩⟩
end V
namespace V
open PySem PySem.Spec PyProof.Rows L2 U StX
def lift (sp : DC) : Sp := fun vs H Q E => ∃ S M ds P, Wo S M H ∧ DtA S H vs ds ∧ sp ds M P ∧ AtE S M H P Q
/-- an __init__ whose instance changes no more -/
def liftF (sp : DC) : Sp := lift sp
def startD (N : List Str) (ds : List D) : Dl := ds.map some ++ List.replicate (N.length - ds.length) none
theorem en_start {S : Addr → Prop} {H : Hp} (N : List Str) : ∀ {vs : List V} {ds : List D}, DtA S H vs ds → En S H (L2.start N vs) (startD N ds) := by
  intro vs ds h
  have hl := h.length
  refine ⟨by unfold L2.start startD; simp [hl], fun i d hi => ?_⟩
  unfold startD at hi
  unfold L2.start
  by_cases c : i < ds.length
  · rw [List.getElem?_append_left (by rw [List.length_map]; exact c), List.getElem?_map] at hi
    obtain ⟨d', h1, h2⟩ := Option.map_eq_some_iff.mp hi
    cases h2
    obtain ⟨v, h3, h4⟩ := h.get h1
    refine ⟨v, ?_, h4⟩
    rw [List.getElem?_append_left (by rw [List.length_map]; omega), List.getElem?_map, h3]
    rfl
  · rw [List.getElem?_append_right (by rw [List.length_map]; omega), List.getElem?_replicate] at hi
    split at hi <;> cases hi
section
variable {P : Program} {w : World} {K : PySem.W.Frag} {mg : Str → Option Value} {base : Heap} {x qual : Str} {st : Stmt} {f : Addr} {fd : FuncData} {N ps : List Str} {k : Nat} {sp : DC}
theorem liftLen (len : ∀ ds M P, sp ds M P → ds.length = ps.length) : ∀ vs H Q E, lift sp vs H Q E → vs.length = ps.length := fun vs H Q E ⟨S, M, ds, P, _, h, p, _⟩ => by rw [h.length]; exact len ds M P p
theorem body_run {X : Cx} {body : List Stmt} {t : TS} {dt : DS} [A : PuS t dt] (go : ∀ ds M P, sp ds M P → dt (fun _ M' => P .non M') P (fun _ _ => False) (fun _ _ => False) (startD N ds) M) {vs : List V} {H : Hp} {Q : VK} {E : XK} (h : lift sp vs H Q E) :
    t { nx := fun _ H' => Q .non H', rt := Q } (L2.start N vs) H := by
  obtain ⟨S, M, ds, P, w, h, p, k⟩ := h
  exact A.run S M _ _ H _ _ _ _ _ w (en_start N h) (go ds M P p) ⟨fun δ' S' M' σ' H' q t w e => k _ S' M' _ H' q t w .non, k, fun _ _ _ _ _ q => q.elim, fun _ _ _ _ _ q => q.elim⟩
theorem fnD (F : L2.Fun K x qual st f fd) (S : FnScope N ps (L2.defScope st)) (len : ∀ ds M P, sp ds M P → ds.length = ps.length)
    (hb : ∀ (cdv : Value) (A : Around) (outer : List Env) (s : Shared) (H : Hp) (E : XK), Room k (A.deeper (envOfC qual (L2.defScope st) s.heap.objs.size f cdv)) →
      ∃ t, PSs (cxOf L2.CX0 P w K mg base N qual (L2.defScope st) f cdv A outer s H E).nox (L2.defBody st) t ∧ ∃ dt, PuS t dt ∧ ∀ ds M P, sp ds M P → dt (fun _ M' => P .non M') P (fun _ _ => False) (fun _ _ => False) (startD N ds) M) :
    FnOk P w K mg base L2.CX0 (k + 1) f fd ps (lift sp) :=
  F.ok S (liftLen len) fun cdv A outer s H vs Q E hr h => by
    obtain ⟨t, ht, dt, A, go⟩ := hb cdv A outer s H E hr
    exact ⟨t, ht, body_run (X := cxOf L2.CX0 P w K mg base N qual (L2.defScope st) f cdv ‹_› outer s H E) (body := L2.defBody st) go h⟩
theorem fnDG (F : L2.Fun K x qual st f fd) (S : FnScope N ps (L2.defScope st)) (len : ∀ ds M P, sp ds M P → ds.length = ps.length)
    (hb : ∀ (cdv : Value) (A : Around) (outer : List Env) (s : Shared) (H : Hp) (E : XK), Room k (A.deeper (envOfC qual (L2.defScope st) s.heap.objs.size f cdv)) → A.guards = some [] →
      ∃ t, PSs (cxOf L2.CX0 P w K mg base N qual (L2.defScope st) f cdv A outer s H E).nox (L2.defBody st) t ∧ ∃ dt, PuS t dt ∧ ∀ ds M P, sp ds M P → dt (fun _ M' => P .non M') P (fun _ _ => False) (fun _ _ => False) (startD N ds) M) :
    FnG P w K mg base (k + 1) f fd ps (lift sp) :=
  fnG_of F S (liftLen len) fun cdv A outer s H vs Q E hr hg h => by
    obtain ⟨t, ht, dt, A, go⟩ := hb cdv A outer s H E hr hg
    exact ⟨t, ht, body_run (X := cxOf L2.CX0 P w K mg base N qual (L2.defScope st) f cdv ‹_› outer s H E) (body := L2.defBody st) go h⟩
theorem fn_weak {spA spB : Sp} {CX : CXT} (F : FnOk P w K mg base CX k f fd ps spA) (h : ∀ vs H Q E, spB vs H Q E → spA vs H Q E) : FnOk P w K mg base CX k f fd ps spB :=
  ⟨fun vs H Q E q => F.len vs H Q E (h vs H Q E q), fun A outer s H args us vs Q E hr e0 hb r hsp => F.run A outer s H args us vs Q E hr e0 hb r (h _ _ _ _ hsp)⟩
theorem fnG_weak {spA spB : Sp} (F : FnG P w K mg base k f fd ps spA) (h : ∀ vs H Q E, spB vs H Q E → spA vs H Q E) : FnG P w K mg base k f fd ps spB :=
  ⟨fun vs H Q E q => F.len vs H Q E (h vs H Q E q), fun A outer s H args us vs Q E hr hg e0 hb r hsp => F.run A outer s H args us vs Q E hr hg e0 hb r (h _ _ _ _ hsp)⟩
end
def dCall (sp : DC) (t : DA) : DE := fun δ M P => t δ M fun ds M1 => sp ds M1 P
class RelG (gV : List V → List V → List V) (gD : outParam (List D → List D → List D)) : Prop where
  run : ∀ S H vs ds zs es, DtA S H vs ds → DtA S H zs es → DtA S H (gV vs zs) (gD ds es)
instance relG_0 : RelG (fun us ws => us ++ pk0 ws) (fun us ws => us ++ pk0 ws) := ⟨fun _ _ _ _ _ _ h k => h.append k⟩
instance relG_01 : RelG (fun us ws => us ++ pk0_1 ws) (fun us ws => us ++ pk0_1 ws) := ⟨fun _ _ _ _ _ _ h k => h.append k⟩
theorem pk1_0_dt {S : Addr → Prop} {H : Hp} {zs : List V} {es : List D} (k : DtA S H zs es) : DtA S H (pk1_0 zs) (pk1_0 es) := by
  match zs, es, k with
  | [], [], .nil => exact .nil
  | [_], [_], .cons a .nil => exact .cons a .nil
  | [_, _], [_, _], .cons a (.cons b .nil) => exact .cons b (.cons a .nil)
  | _ :: _ :: _ :: _, _ :: _ :: _ :: _, .cons a (.cons b (.cons c t)) => exact .cons a (.cons b (.cons c t))
theorem pk2_1_0_dt {S : Addr → Prop} {H : Hp} {zs : List V} {es : List D} (k : DtA S H zs es) : DtA S H (pk2_1_0 zs) (pk2_1_0 es) := by
  match zs, es, k with
  | [], [], .nil => exact .nil
  | [_], [_], .cons a .nil => exact .cons a .nil
  | [_, _], [_, _], .cons a (.cons b .nil) => exact .cons a (.cons b .nil)
  | [_, _, _], [_, _, _], .cons a (.cons b (.cons c .nil)) => exact .cons c (.cons b (.cons a .nil))
  | _ :: _ :: _ :: _ :: _, _ :: _ :: _ :: _ :: _, .cons a (.cons b (.cons c (.cons d t))) => exact .cons a (.cons b (.cons c (.cons d t)))
theorem pk3_2_1_0_dt {S : Addr → Prop} {H : Hp} {zs : List V} {es : List D} (k : DtA S H zs es) : DtA S H (pk3_2_1_0 zs) (pk3_2_1_0 es) := by
  match zs, es, k with
  | [], [], .nil => exact .nil
  | [_], [_], .cons a .nil => exact .cons a .nil
  | [_, _], [_, _], .cons a (.cons b .nil) => exact .cons a (.cons b .nil)
  | [_, _, _], [_, _, _], .cons a (.cons b (.cons c .nil)) => exact .cons a (.cons b (.cons c .nil))
  | [_, _, _, _], [_, _, _, _], .cons a (.cons b (.cons c (.cons d .nil))) => exact .cons d (.cons c (.cons b (.cons a .nil)))
  | _ :: _ :: _ :: _ :: _ :: _, _ :: _ :: _ :: _ :: _ :: _, .cons a (.cons b (.cons c (.cons d (.cons e t)))) => exact .cons a (.cons b (.cons c (.cons d (.cons e t))))
instance relG_10 : RelG (fun us ws => us ++ pk1_0 ws) (fun us ws => us ++ pk1_0 ws) := ⟨fun _ _ _ _ _ _ h k => h.append (pk1_0_dt k)⟩
instance relG_210 : RelG (fun us ws => us ++ pk2_1_0 ws) (fun us ws => us ++ pk2_1_0 ws) := ⟨fun _ _ _ _ _ _ h k => h.append (pk2_1_0_dt k)⟩
instance relG_3210 : RelG (fun us ws => us ++ pk3_2_1_0 ws) (fun us ws => us ++ pk3_2_1_0 ws) := ⟨fun _ _ _ _ _ _ h k => h.append (pk3_2_1_0_dt k)⟩
def dCallN (n m : Nat) (sp : DC) (g : List D → List D → List D) (t tk : DA) : DE := fun δ M P => t δ M fun ds M1 => tk δ M1 fun es M2 => ds.length = n ∧ es.length = m ∧ sp (g ds es) M2 P
def dMeth (C : Addr) (m : Str) (sp : DC) (a : DE) (t : DA) : DE := fun δ M P => a δ M fun x M1 => (∃ ns xs, isIn M1 x C ns xs ∧ m ∉ ns) ∧ t δ M1 fun ds M2 => sp (x :: ds) M2 P
/-- a new instance -/
def rMake (C : Addr) (sp : DC) : DC := fun ds M P => ∀ x, M x = none → sp (.ptr x :: ds) (mset M x (.ins C [])) fun d M2 => d = .non ∧ P (.ptr x) M2
def rMakeF (C : Addr) (sp : DC) : DC := fun ds M P => ∀ x, M x = none → sp (.ptr x :: ds) (mset M x (.ins C [])) fun d M2 => d = .non ∧ ∃ fs, M2 x = some (.ins C fs) ∧ P (.ins C (fs.map (·.1)) (fs.map (·.2))) (mdel M2 x)
def dMakeK (r : DC) (g : List D → List D) (n : Nat) (tk : DA) : DE := fun δ M P => tk δ M fun es M1 => es.length = n ∧ r (g es) M1 P
section
variable {t tk : TA} {dt dk : DA} {ta : TE} {da : DE} {sp : DC} {E : XK} {C : Addr} {m : Str}
instance pu_call [A : PuA t dt] : PuE (tCall (lift sp) [] E t) (dCall sp dt) := ⟨fun S M σ δ H P Q w e h k =>
  A.run S M σ δ H _ _ w e h fun ds S1 M1 vs H1 p1 t1 w1 h1 => by
    rw [List.append_nil]
    exact ⟨S1, M1, ds, P, w1, h1, p1, k.go t1⟩⟩
instance pu_callN {n l : Nat} {gV : List V → List V → List V} {gD : List D → List D → List D} [A : PuA t dt] [B : PuA tk dk] [G : RelG gV gD] : PuE (tCallN n l (lift sp) gV E t tk) (dCallN n l sp gD dt dk) := ⟨fun S M σ δ H P Q w e h k =>
  A.run S M σ δ H _ _ w e h fun ds S1 M1 vs H1 p1 t1 w1 h1 =>
    B.run S1 M1 σ δ H1 _ _ w1 (e.step w t1) p1 fun es S2 M2 zs H2 p2 t2 w2 h2 => by
      obtain ⟨l1, l2, p2⟩ := p2
      exact ⟨by rw [h1.length]; exact l1, by rw [h2.length]; exact l2, S2, M2, _, P, w2, G.run S2 H2 _ _ _ _ (dtA_step w1 t2 _ h1) h2, p2, k.go (t1.trans t2)⟩⟩
theorem lookup_none {fs : List (Str × V)} (h : m ∉ fs.map (·.1)) : fs.lookup m = none := by
  induction fs with
  | nil => rfl
  | cons p fs ih =>
    rw [List.map_cons, List.mem_cons, not_or] at h
    obtain ⟨a, b⟩ := p
    rw [List.lookup_cons]
    have : (m == a) = false := by simpa using h.1
    simp only [this]
    exact ih h.2
instance pu_meth [A : PuE ta da] [B : PuA t dt] : PuE (tMeth C m (lift sp) [] E ta t) (dMeth C m sp da dt) := ⟨fun S M σ δ H P Q w e h k =>
  A.run S M σ δ H _ _ w e h fun d S1 M1 v H1 p1 t1 w1 h1 => by
    obtain ⟨⟨ns, xs, hi, hm⟩, p1⟩ := p1
    obtain ⟨a, dx, fs, rfl, ha, hn, hs⟩ := in_get w1 h1 hi
    refine ⟨a, dx, fs, rfl, ha, lookup_none (by rw [hn]; exact hm), B.run S1 M1 σ δ H1 _ _ w1 (e.step w t1) p1 fun ds S2 M2 vs H2 p2 t2 w2 h2 => ?_⟩
    rw [List.append_nil]
    exact ⟨S2, M2, d :: ds, P, w2, .cons (dt_step w1 t2 _ h1) h2, p2, k.go (t1.trans t2)⟩⟩
theorem new_ins {S : Addr → Prop} {M : Mem} {H : Hp} (w : Wo S M H) {x dx : Addr} (nx : H x = none) (nd : H dx = none) (ne : dx ≠ x) :
    Wo (fun a => S a ∨ a = x) (mset M x (.ins C [])) (upd (upd H dx (.own x)) x (.ins C dx [])) ∧ Step S M H (fun a => S a ∨ a = x) (mset M x (.ins C [])) (upd (upd H dx (.own x)) x (.ins C dx [])) := by
  have w1 := w.new (o := .own x) nd
  have nx1 : upd H dx (.own x) x = none := by rw [upd_ne ne.symm]; exact nx
  exact ⟨w1.mutable nx1 ⟨dx, [], upd_same, rfl, .nil⟩, (Step.new nd).trans (.mutable w1 nx1)⟩
theorem make_go {S : Addr → Prop} {M : Mem} {H : Hp} {P : QD} {Q : VK} {vs : List V} {ds : List D} {x dx : Addr} (w : Wo S M H) (h : DtA S H vs ds) (p : rMake C sp ds M P) (k : AtE S M H P Q) (nx : H x = none) (nd : H dx = none) (ne : dx ≠ x) :
    lift sp (.ref x :: vs) (upd (upd H dx (.own x)) x (.ins C dx [])) (fun v H2 => v = .non ∧ Q (.ref x) H2) E := by
  obtain ⟨w1, t1⟩ := new_ins (C := C) w nx nd ne
  refine ⟨_, _, _, _, w1, .cons (.ptr x) (dtA_step w t1 _ h), p x (w.fresh nx), fun d S2 M2 v H2 q t2 w2 hv => ?_⟩
  obtain ⟨rfl, q⟩ := q
  cases hv
  exact ⟨rfl, k _ S2 M2 _ H2 q (t1.trans t2) w2 (.ptr x)⟩
theorem makeF_go {S : Addr → Prop} {M : Mem} {H : Hp} {P : QD} {Q : VK} {vs : List V} {ds : List D} {x dx : Addr} (w : Wo S M H) (h : DtA S H vs ds) (p : rMakeF C sp ds M P) (k : AtE S M H P Q) (nx : H x = none) (nd : H dx = none) (ne : dx ≠ x) :
    liftF sp (.ref x :: vs) (upd (upd H dx (.own x)) x (.ins C dx [])) (fun v H2 => v = .non ∧ Q (.ref x) H2) E := by
  obtain ⟨w1, t1⟩ := new_ins (C := C) w nx nd ne
  refine ⟨_, _, _, _, w1, .cons (.ptr x) (dtA_step w t1 _ h), p x (w.fresh nx), fun d S2 M2 v H2 q t2 w2 hv => ?_⟩
  obtain ⟨rfl, fs, hm, q⟩ := q
  cases hv
  obtain ⟨sx, dx', gs, ha, hn, hs⟩ := w2.mem x _ hm
  have t3 := (t1.trans t2).trans (Step.freeze (S := S2) (H := H2) hm)
  exact ⟨rfl, k _ _ _ _ H2 q t3 w2.freeze (.ins (fun z => z.2 rfl) ha hn (dtA_freeze hs))⟩
instance pu_make [A : PuA t dt] : PuE (tMake C (lift sp) [] E t) (dCB (rMake C sp) dt) := ⟨fun S M σ δ H P Q w e h k =>
  A.run S M σ δ H _ _ w e h fun ds S1 M1 vs H1 p1 t1 w1 h1 x dx nx nd ne => by
    rw [List.append_nil]
    exact make_go w1 h1 p1 (k.go t1) nx nd ne⟩
instance pu_makeF [A : PuA t dt] : PuE (tMake C (liftF sp) [] E t) (dCB (rMakeF C sp) dt) := ⟨fun S M σ δ H P Q w e h k =>
  A.run S M σ δ H _ _ w e h fun ds S1 M1 vs H1 p1 t1 w1 h1 x dx nx nd ne => by
    rw [List.append_nil]
    exact makeF_go w1 h1 p1 (k.go t1) nx nd ne⟩
def d3210 : List D → List D := pk3_2_1_0
def d10 : List D → List D := pk1_0
def d0 : List D → List D := pk0
instance pu_makeF3210 [B : PuA tk dk] : PuE (tMakeK C 0 4 (liftF sp) (fun us ws => us ++ pk3_2_1_0 ws) E tNil tk) (dMakeK (rMakeF C sp) d3210 4 dk) := ⟨fun S M σ δ H P Q w e h k =>
  B.run S M σ δ H _ _ w e h fun es S2 M2 zs H2 p2 t2 w2 h2 => ⟨rfl, by rw [h2.length]; exact p2.1, fun x dx nx nd ne => makeF_go w2 (pk3_2_1_0_dt h2) p2.2 (k.go t2) nx nd ne⟩⟩
instance pu_makeF10 [B : PuA tk dk] : PuE (tMakeK C 0 2 (liftF sp) (fun us ws => us ++ pk1_0 ws) E tNil tk) (dMakeK (rMakeF C sp) d10 2 dk) := ⟨fun S M σ δ H P Q w e h k =>
  B.run S M σ δ H _ _ w e h fun es S2 M2 zs H2 p2 t2 w2 h2 => ⟨rfl, by rw [h2.length]; exact p2.1, fun x dx nx nd ne => makeF_go w2 (pk1_0_dt h2) p2.2 (k.go t2) nx nd ne⟩⟩
instance pu_make0 [B : PuA tk dk] : PuE (tMakeK C 0 1 (lift sp) (fun us ws => us ++ pk0 ws) E tNil tk) (dMakeK (rMake C sp) d0 1 dk) := ⟨fun S M σ δ H P Q w e h k =>
  B.run S M σ δ H _ _ w e h fun es S2 M2 zs H2 p2 t2 w2 h2 => ⟨rfl, by rw [h2.length]; exact p2.1, fun x dx nx nd ne => make_go w2 h2 p2.2 (k.go t2) nx nd ne⟩⟩
end
def potD (p : Addr) : D := .opq p (potO p)
def spDrawD : DC := fun ds M P => ∃ p n, ds = [potD p, .int n] ∧ (0 < n ∧ n < 1073741824) ∧ ∀ r, 0 ≤ r → r < n → P (.int r) M
theorem draw_lift : ∀ vs H Q E, lift spDrawD vs H Q E → spDraw vs H Q E := by
  rintro vs H Q E ⟨S, M, ds, P, w, h, ⟨p, n, rfl, hn, q⟩, k⟩
  match vs, h with
  | [_, _], .cons (.opq np hp) (.cons (.int _) .nil) => exact ⟨p, n, rfl, hp, hn, fun r H' e h0 h1 => k _ S M _ H' (q r h0 h1) (.same e) (w.same e) (.int r)⟩
def spRightD : DC := fun ds M P => ∃ p, ds = [potD p] ∧ P (.bl true) M
theorem same_of_step {M' : Mem} {S' : Addr → Prop} {H H' : Hp} (t : Step N0 (fun _ => none) H S' M' H') : Same H H' := fun b o e => (t.keep b o rfl e).1
theorem wo_none (H : Hp) : Wo N0 (fun _ => none) H := ⟨fun _ h => h.elim, fun _ _ h => by cases h⟩
theorem right_lift : ∀ vs H Q E, (∃ p : Addr, vs = [.ref p] ∧ Pot H p ∧ ∀ H', Same H H' → Q (.bl true) H') → lift spRightD vs H Q E := by
  rintro vs H Q E ⟨p, rfl, hp, q⟩
  refine ⟨N0, fun _ => none, [potD p], fun d _ => d = .bl true, wo_none H, .cons (.opq (fun z => z) hp) .nil, ⟨p, rfl, rfl⟩, fun d S' M' v H' e t w h => ?_⟩
  subst e
  cases h
  exact q H' (same_of_step t)
section
variable {G : Mem → Prop} {g : DG} {b : DS} {nx : QS} {rt : QD} {xs : List D} {δ : Dl} {M : Mem}
theorem loop_inv (I : Nat → QS) (h0 : I 0 δ M)
    (step : ∀ i x δ M (Kc : QS), xs[i]? = some x → I i δ M → (∀ δ' M', G M' → I (i + 1) δ' M' → G M' ∧ Kc δ' M') → g x δ M fun δ1 M1 => b (fun δ' M' => G M' ∧ Kc δ' M') rt nx (fun δ' M' => G M' ∧ Kc δ' M') δ1 M1)
    (fin : ∀ δ M, I xs.length δ M → nx δ M) : dLoop G g b nx rt xs δ M := by
  have key : ∀ k i δ M, i + k = xs.length → I i δ M → dLoop G g b nx rt (xs.drop i) δ M := by
    intro k
    induction k with
    | zero =>
      intro i δ M e h
      have : i = xs.length := by omega
      subst this
      rw [List.drop_length]
      exact fin δ M h
    | succ k ih =>
      intro i δ M e h
      have hx := at_some (xs := xs) (i := i) (by omega)
      rw [drop_cons hx]
      exact step i _ δ M (dLoop G g b nx rt (xs.drop (i + 1))) hx h fun δ' M' g' h' => ⟨g', ih (i + 1) δ' M' (by omega) h'⟩
  exact key xs.length 0 δ M (by omega) h0
variable {t : DT} {a : DE} {vs : List Nat} {P : QD}
theorem gather_inv (I : Nat → List D → Mem → Prop) (h0 : I 0 [] M)
    (step : ∀ i x acc M (Ky : QD) (Kn : Mem → Prop), xs[i]? = some x → I i acc M → (∀ y M', G M' → I (i + 1) (acc ++ [y]) M' → G M' ∧ Ky y M') → (∀ M', G M' → I (i + 1) acc M' → G M' ∧ Kn M') →
      g x (wipeD δ vs) M fun δ1 M1 => t δ1 M1 fun b M2 => if b = true then a δ1 M2 fun y M3 => G M3 ∧ Ky y M3 else G M2 ∧ Kn M2)
    (fin : ∀ acc M, I xs.length acc M → P (.lst acc) M) : dGather G g t a vs δ P xs [] M := by
  have key : ∀ k i acc M, i + k = xs.length → I i acc M → dGather G g t a vs δ P (xs.drop i) acc M := by
    intro k
    induction k with
    | zero =>
      intro i acc M e h
      have : i = xs.length := by omega
      subst this
      rw [List.drop_length]
      exact fin acc M h
    | succ k ih =>
      intro i acc M e h
      have hx := at_some (xs := xs) (i := i) (by omega)
      rw [drop_cons hx]
      exact step i _ acc M (fun y M' => dGather G g t a vs δ P (xs.drop (i + 1)) (acc ++ [y]) M') (dGather G g t a vs δ P (xs.drop (i + 1)) acc) hx h (fun y M' g' h' => ⟨g', ih (i + 1) _ M' (by omega) h'⟩) fun M' g' h' => ⟨g', ih (i + 1) _ M' (by omega) h'⟩
  exact key xs.length 0 [] M (by omega) h0
/-- [f(x) for x in xs if p(x)] -/
theorem gather_map {f : D → D} {p : D → Bool}
    (step : ∀ x, x ∈ xs → ∀ (Ky : QD) (Kn : Mem → Prop), (p x = true → Ky (f x) M) → (p x = false → Kn M) → g x (wipeD δ vs) M fun δ1 M1 => t δ1 M1 fun b M2 => if b = true then a δ1 M2 fun y M3 => Ky y M3 else Kn M2)
    (hG : G M) (fin : P (.lst ((xs.filter p).map f)) M) : dGather G g t a vs δ P xs [] M := by
  refine gather_inv (fun i acc M' => M' = M ∧ acc = ((xs.take i).filter p).map f) ⟨rfl, rfl⟩ ?_ ?_
  · rintro i x acc M' Ky Kn hx ⟨rfl, rfl⟩ hy hn
    refine step x (List.mem_of_getElem? hx) (fun y M3 => G M3 ∧ Ky y M3) (fun M3 => G M3 ∧ Kn M3) (fun hp => hy _ _ hG ⟨rfl, ?_⟩) (fun hp => hn _ hG ⟨rfl, ?_⟩)
    · rw [take_snoc hx, List.filter_append, List.map_append]
      simp [hp]
    · rw [take_snoc hx, List.filter_append, List.map_append]
      simp [hp]
  · rintro acc M' ⟨rfl, rfl⟩
    rw [List.take_length]
    exact fin
/-- [f(x) for x in xs] -/
theorem gather_all {f : D → D}
    (step : ∀ x, x ∈ xs → ∀ (Ky : QD), Ky (f x) M → g x (wipeD δ vs) M fun δ1 M1 => a δ1 M1 Ky)
    (hG : G M) (fin : P (.lst (xs.map f)) M) : dGather G g dYes a vs δ P xs [] M := by
  refine gather_inv (fun i acc M' => M' = M ∧ acc = (xs.take i).map f) ⟨rfl, rfl⟩ ?_ ?_
  · rintro i x acc M' Ky Kn hx ⟨rfl, rfl⟩ hy hn
    refine step x (List.mem_of_getElem? hx) (fun y M3 => G M3 ∧ Ky y M3) (hy _ _ hG ⟨rfl, ?_⟩)
    rw [take_snoc hx, List.map_append]
    rfl
  · rintro acc M' ⟨rfl, rfl⟩
    rw [List.take_length]
    exact fin
end
section
variable {δ : Dl} {M : Mem} {P : QD} {a b c : DE} {t : DA} {s u : DS} {nx bk ct : QS} {rt : QD} {g : DG} {k k' : DT} {r r' : DR} {PB : Bool → Mem → Prop} {PA : List D → Mem → Prop} {i j : Nat}
theorem x_var {d : D} (h : δ[i]? = some (some d)) (p : P d M) : dVar i δ M P := ⟨d, h, p⟩
theorem x_c {d : D} (p : P d M) : dC d δ M P := p
theorem x_op (h : a δ M fun x M1 => b δ M1 fun y M2 => r x y M2 P) : dOp r a b δ M P := h
theorem x_nil (p : PA [] M) : dNil δ M PA := p
theorem x_cons (h : a δ M fun x M1 => t δ M1 fun xs M2 => PA (x :: xs) M2) : dCons a t δ M PA := h
theorem x_tup (h : t δ M fun xs M1 => xs.length ≤ sizeLine ∧ P (.tup xs) M1) : dTup t δ M P := h
theorem x_lst (h : t δ M fun xs M1 => xs.length ≤ sizeLine ∧ P (.lst xs) M1) : dLst t δ M P := h
theorem x_lstM (h : t δ M fun xs M1 => xs.length ≤ sizeLine ∧ ∀ a, M1 a = none → P (.ptr a) (mset M1 a (.lst xs))) : dLstM t δ M P := h
theorem x_if (h : k δ M fun q M1 => if q = true then a δ M1 P else b δ M1 P) : dIf k a b δ M P := h
theorem x_B (h : a δ M fun x M1 => ∃ b, x = .bl b ∧ PB b M1) : dB a δ M PB := h
theorem x_and (h : k δ M fun c M1 => if c = true then k' δ M1 PB else PB false M1) : dAnd k k' δ M PB := h
theorem x_or (h : k δ M fun c M1 => if c = true then PB true M1 else k' δ M1 PB) : dOr k k' δ M PB := h
theorem x_not (h : k δ M fun c M1 => PB (!c) M1) : dNot k δ M PB := h
theorem x_andV (h : a δ M fun x M1 => ∃ c, x = .bl c ∧ if c = true then b δ M1 P else P (.bl false) M1) : dAndV a b δ M P := h
theorem x_orV (h : a δ M fun x M1 => ∃ c, x = .bl c ∧ if c = true then P (.bl true) M1 else b δ M1 P) : dOrV a b δ M P := h
theorem x_notV (h : a δ M fun x M1 => ∃ c, x = .bl c ∧ P (.bl (!c)) M1) : dNotV a δ M P := h
theorem x_chain (h : a δ M fun x M1 => b δ M1 fun y M2 => r x y M2 fun z M3 => ∃ k, z = .bl k ∧ if k = true then c δ M3 fun w M4 => r' y w M4 P else P (.bl false) M3) : dChain r r' a b c δ M P := h
theorem x_cb {q : DC} (h : t δ M fun xs M1 => q xs M1 P) : dCB q t δ M P := h
theorem x_then {q : D → Mem → QD → Prop} (h : a δ M fun x M1 => q x M1 P) : dThen a q δ M P := h
theorem x_star (h : a δ M fun x M1 => ∃ xs, (isTF x xs ∨ x = .lst xs ∨ ∃ p, x = .ptr p ∧ M1 p = some (.lst xs)) ∧ t δ M1 fun ys M2 => PA (xs ++ ys) M2) : dStar a t δ M PA := h
theorem x_part {PO : Option Int → Mem → Prop} (h : a δ M fun x M1 => ∃ i, x = .int i ∧ PO (some i) M1) : dPart a δ M PO := h
theorem x_noPart {PO : Option Int → Mem → Prop} (h : PO none M) : dNoPart δ M PO := h
theorem x_sl {l h : DO} (q : a δ M fun x M1 => l δ M1 fun lo M2 => h δ M2 fun hi M3 => rSl1 x lo hi M3 P) : dSl a l h δ M P := q
theorem x_fld {K : PySem.W.Frag} {f : Str} (h : a δ M fun x M1 => rFld1 K f x M1 P) : dFld K a f δ M P := h
theorem x_fldI {K : PySem.W.Frag} {C : Addr} {ns : List Str} {ds : List D} {f : Str} {d : D} (k : Nat) (l1 : ns[k]? = some f) (l2 : ds[k]? = some d) (cl : Cls K C) (n : NoAttr K C f) (l0 : ns.Nodup) (p : P d M) : rFld1 K f (.ins C ns ds) M P := ⟨C, ns, ds, d, .inl rfl, cl, n, ⟨k, l0, l1, l2⟩, p⟩
theorem x_fldQ {K : PySem.W.Frag} {C p : Addr} {fs : List (Str × D)} {f : Str} {d : D} (k : Nat) (hm : M p = some (.ins C fs)) (l1 : (fs.map (·.1))[k]? = some f) (l2 : (fs.map (·.2))[k]? = some d) (cl : Cls K C) (n : NoAttr K C f) (l0 : (fs.map (·.1)).Nodup) (q : P d M) : rFld1 K f (.ptr p) M P :=
  ⟨C, _, _, d, .inr ⟨p, fs, rfl, hm, rfl, rfl⟩, cl, n, ⟨k, l0, l1, l2⟩, q⟩
theorem x_sfld {K : PySem.W.Frag} {f : Str} (h : b δ M fun y M1 => a δ M1 fun x M2 => rPut1 K f x y M2 (nx δ)) : sFldD K a b f nx rt bk ct δ M := h
theorem x_sfldP {K : PySem.W.Frag} {f : Str} {p C : Addr} {fs : List (Str × D)} {y : D} {PM : Mem → Prop} (hm : M p = some (.ins C fs)) (c : Cls K C) (n : NoAttr K C f) (hl : fs.length < 1000) (q : PM (mset M p (.ins C (putD f y fs)))) : rPut1 K f (.ptr p) y M PM := ⟨p, C, fs, rfl, hm, c, n, hl, q⟩
theorem x_sfldQ {K : PySem.W.Frag} {f : Str} {p C : Addr} {fs : List (Str × D)} {y : D} {PM : Mem → Prop} (c : Cls K C) (n : NoAttr K C f) (hl : fs.length < 1000) (q : PM (mset M p (.ins C (putD f y fs)))) : rPut1 K f (.ptr p) y (mset M p (.ins C fs)) PM := ⟨p, C, fs, rfl, mset_same, c, n, hl, by rw [mset_set]; exact q⟩
theorem x_neg (h : a δ M fun x M1 => ∃ i, x = .int i ∧ P (.int (-i)) M1) : dNeg a δ M P := h
theorem x_join (h : a δ M fun x M1 => (∃ z, x = .str z) ∧ b δ M1 fun y M2 => rJoin1 x y M2 P) : dJoin1 a b δ M P := h
theorem x_append (h : a δ M fun x M1 => ∃ l, x = .ptr l ∧ (∃ xs, M1 l = some (.lst xs)) ∧ t δ M1 fun ys M2 => ∃ xs y, ys = [y] ∧ M2 l = some (.lst xs) ∧ xs.length < sizeLine ∧ P .non (mset M2 l (.lst (xs ++ [y])))) : dAppend a t δ M P := h
theorem x_lstRg {q : DRg} (h : q δ M fun a b M1 => RgOk a b ∧ P (.lst (rgD a b)) M1) : dLstRg q δ M P := h
theorem x_rg1 {PR : Int → Int → Mem → Prop} (h : a δ M fun x M1 => ∃ n, x = .int n ∧ PR 0 n M1) : dRg1 a δ M PR := h
theorem x_rg2 {PR : Int → Int → Mem → Prop} (h : a δ M fun x M1 => b δ M1 fun y M2 => ∃ i j, x = .int i ∧ y = .int j ∧ PR i j M2) : dRg2 a b δ M PR := h
theorem x_revL (h : a δ M fun x M1 => ∃ xs, isLs M1 x xs ∧ P (.lst xs.reverse) M1) : dRevL a δ M P := h
theorem x_joinF {ds : List DE} (h : dJs ds Str.empty δ M fun out M1 => P (.str out) M1) : dJoin ds δ M P := h
theorem x_call {sp : DC} (h : t δ M fun ds M1 => sp ds M1 P) : dCall sp t δ M P := h
theorem x_callN {n m : Nat} {sp : DC} {f : List D → List D → List D} {tk : DA} (h : t δ M fun ds M1 => tk δ M1 fun es M2 => ds.length = n ∧ es.length = m ∧ sp (f ds es) M2 P) : dCallN n m sp f t tk δ M P := h
theorem x_meth {C : Addr} {m : Str} {sp : DC} (h : a δ M fun x M1 => (∃ ns xs, isIn M1 x C ns xs ∧ m ∉ ns) ∧ t δ M1 fun ds M2 => sp (x :: ds) M2 P) : dMeth C m sp a t δ M P := h
theorem x_makeK {q : DC} {f : List D → List D} {n : Nat} (h : t δ M fun es M1 => es.length = n ∧ q (f es) M1 P) : dMakeK q f n t δ M P := h
theorem x_lc {di : DI} {vs : List Nat} (h : di δ M fun G xs M1 => G M1 ∧ xs.length ≤ 16777216 ∧ dGather G g k a vs δ P xs [] M1) : dLc di g k a vs δ M P := h
theorem x_yes (h : PB true M) : dYes δ M PB := h
theorem x_next (h : nx δ M) : sNext nx rt bk ct δ M := h
theorem x_seq (h : s (fun δ1 M1 => u nx rt bk ct δ1 M1) rt bk ct δ M) : sSeq s u nx rt bk ct δ M := h
theorem x_break (h : bk δ M) : sBreak nx rt bk ct δ M := h
theorem x_cont (h : ct δ M) : sCont nx rt bk ct δ M := h
theorem x_drop (h : a δ M fun _ M1 => nx δ M1) : sDrop a nx rt bk ct δ M := h
theorem x_ret (h : a δ M rt) : sRet a nx rt bk ct δ M := h
theorem x_retN (h : rt .non M) : sRetN nx rt bk ct δ M := h
theorem x_ifS (h : k δ M fun q M1 => if q = true then s nx rt bk ct δ M1 else u nx rt bk ct δ M1) : sIf k s u nx rt bk ct δ M := h
theorem x_asg (h : a δ M fun x M1 => g x δ M1 nx) : sAsg a g nx rt bk ct δ M := h
theorem x_gN {d : D} (h : nx (δ.set i (some d)) M) : dgN i d δ M nx := h
theorem x_par (h : t δ M fun xs M1 => ∃ x y, xs = [x, y] ∧ nx ((δ.set i (some x)).set j (some y)) M1) : sPar i j t nx rt bk ct δ M := h
theorem x_aug {d : D} (h : δ[i]? = some (some d)) (q : a δ M fun y M1 => r d y M1 fun z M2 => nx (δ.set i (some z)) M2) : sAug i a r nx rt bk ct δ M := ⟨d, h, q⟩
theorem x_for {di : DI} (h : di δ M fun G xs M1 => G M1 ∧ dLoop G g s nx rt xs δ M1) : sFor di g s nx rt bk ct δ M := h
theorem x_gT {n : Nat} {gs : DGs} {xs : List D} (h : xs.length = n) (q : gs xs δ M nx) : dgT n gs (.tup xs) δ M nx := ⟨xs, rfl, h, q⟩
theorem x_gs0 (h : nx δ M) : dgsNil [] δ M nx := ⟨rfl, h⟩
theorem x_gs1 {gs : DGs} {d : D} {ds : List D} (h : g d δ M fun δ1 M1 => gs ds δ1 M1 nx) : dgsCons g gs (d :: ds) δ M nx := ⟨d, ds, rfl, h⟩
theorem x_bl {p : Bool → Prop} {c : Bool} (h : p c) : ∃ b, D.bl c = D.bl b ∧ p b := ⟨c, rfl, h⟩
theorem x_int {p : Int → Prop} {c : Int} (h : p c) : ∃ b, D.int c = D.int b ∧ p b := ⟨c, rfl, h⟩
theorem x_int2 {p : Int → Int → Prop} {c d : Int} (h : p c d) : ∃ a b, D.int c = D.int a ∧ D.int d = D.int b ∧ p a b := ⟨c, d, rfl, rfl, h⟩
theorem x_str0 {z : Str} {p : Prop} (h : p) : (∃ y, D.str z = D.str y) ∧ p := ⟨⟨z, rfl⟩, h⟩
theorem x_two {p : D → D → Prop} {c d : D} (h : p c d) : ∃ a b, [c, d] = [a, b] ∧ p a b := ⟨c, d, rfl, h⟩
theorem x_tr {p : Prop} (h : p) : True ∧ p := ⟨trivial, h⟩
theorem x_addI {x y : Int} (h : P (.int (x + y)) M) : rAdd1 (.int x) (.int y) M P := h
theorem x_I1 {f : Int → Int → D} {x y : Int} (h : P (f x y) M) : V.rI1 f (.int x) (.int y) M P := ⟨x, y, rfl, rfl, h⟩
theorem x_IC1 {C : Int → Int → Prop} {f : Int → Int → D} {x y : Int} (h : C x y ∧ P (f x y) M) : rIC1 C f (.int x) (.int y) M P := ⟨x, y, rfl, rfl, h⟩
theorem x_ltI {x y : Int} (h : P (.bl (decide (x < y))) M) : rLt1 (.int x) (.int y) M P := h
theorem x_eqI {x y : Int} (h : P (.bl (decide (x = y))) M) : rEq1 (.int x) (.int y) M P := h
theorem x_eqS {x y : Str} (h : P (.bl (decide (x = y))) M) : rEq1 (.str x) (.str y) M P := h
theorem x_neI {x y : Int} (h : P (.bl (!decide (x = y))) M) : rNe1 (.int x) (.int y) M P := h
theorem x_neS {x y : Str} (h : P (.bl (!decide (x = y))) M) : rNe1 (.str x) (.str y) M P := h
theorem x_isN {x : D} (h : P (.bl (isNon x)) M) : rIsN1 x .non M P := ⟨rfl, h⟩
theorem x_notN {x : D} (h : P (.bl (!isNon x)) M) : rNotN1 x .non M P := ⟨rfl, h⟩
theorem x_isB {x y : Bool} (h : P (.bl (decide (x = y))) M) : rIsB1 (.bl x) (.bl y) M P := ⟨x, y, rfl, rfl, h⟩
theorem x_notB {x y : Bool} (h : P (.bl (!decide (x = y))) M) : rNotB1 (.bl x) (.bl y) M P := ⟨x, y, rfl, rfl, h⟩
theorem x_ixT {xs : List D} {n : Int} {d : D} (h : atI xs n = some d) (p : P d M) : rIx1 (.tup xs) (.int n) M P := ⟨xs, d, .inr (.inl rfl), h, p⟩
theorem x_ixL {xs : List D} {n : Int} {d : D} (h : atI xs n = some d) (p : P d M) : rIx1 (.lst xs) (.int n) M P := ⟨xs, d, .inl rfl, h, p⟩
theorem x_lenT {xs : List D} (p : P (.int xs.length) M) : rLen1 [.tup xs] M P := ⟨_, rfl, xs, .inr (.inl rfl), p⟩
theorem x_lenL {xs : List D} (p : P (.int xs.length) M) : rLen1 [.lst xs] M P := ⟨_, rfl, xs, .inl rfl, p⟩
theorem x_lenS {z : Str} (p : z.length ≤ sizeLine ∧ P (.int z.length) M) : rLen1 [.str z] M P := ⟨_, rfl, p⟩
theorem x_listL {xs : List D} (p : P (.lst xs) M) : rList1 [.lst xs] M P := ⟨_, rfl, xs, .inl rfl, p⟩
theorem x_listT {xs : List D} (p : P (.lst xs) M) : rList1 [.tup xs] M P := ⟨_, rfl, xs, .inr (.inl rfl), p⟩
theorem x_listS {z : Str} (p : z.length ≤ sizeLine ∧ P (.lst ((cd z).map sgn)) M) : rList1 [.str z] M P := ⟨_, rfl, p⟩
theorem x_tupL {xs : List D} (p : P (.tup xs) M) : kTup1 (.lst xs) M P := ⟨xs, .inl rfl, p⟩
theorem x_tupT {xs : List D} (p : P (.tup xs) M) : kTup1 (.tup xs) M P := ⟨xs, .inr (.inl rfl), p⟩
theorem x_int1 {f : Int → D} {n : Int} (p : P (f n) M) : rI11 f [.int n] M P := ⟨n, rfl, p⟩
theorem x_int21 {f : Int → Int → D} {n m : Int} (p : P (f n m) M) : rI21 f [.int n, .int m] M P := ⟨n, m, rfl, p⟩
theorem x_slT {xs : List D} {lo hi : Option Int} (p : P (.tup (cutG xs lo hi)) M) : rSl1 (.tup xs) lo hi M P := p
theorem x_slL {xs : List D} {lo hi : Option Int} (p : P (.lst (cutG xs lo hi)) M) : rSl1 (.lst xs) lo hi M P := ⟨xs, .inl rfl, p⟩
theorem x_addL {xs ys : List D} (p : xs.length + ys.length ≤ sizeLine ∧ P (.lst (xs ++ ys)) M) : rAdd1 (.lst xs) (.lst ys) M P := ⟨xs, ys, .inl rfl, .inl rfl, p.1, p.2⟩
theorem x_addS {x y : Str} (p : x.length + y.length ≤ sizeLine ∧ P (.str (x ++ y)) M) : rAdd1 (.str x) (.str y) M P := p
theorem x_all {bs : List Bool} (p : P (.bl (bs.all id)) M) : rAll1 [.lst (bs.map D.bl)] M P := ⟨_, bs, rfl, .inl rfl, p⟩
theorem x_diL {PI : (Mem → Prop) → List D → Mem → Prop} {xs : List D} (h : PI (fun _ => True) xs M) : rDiL (.lst xs) M PI := .inl ⟨xs, rfl, h⟩
theorem x_iL {PI : (Mem → Prop) → List D → Mem → Prop} (h : a δ M fun x M1 => rDiL x M1 PI) : diL a δ M PI := h
theorem x_iT {PI : (Mem → Prop) → List D → Mem → Prop} (h : a δ M fun x M1 => ∃ xs, isTF x xs ∧ PI (fun _ => True) xs M1) : diT a δ M PI := h
theorem x_iS {PI : (Mem → Prop) → List D → Mem → Prop} (h : a δ M fun x M1 => ∃ z, x = .str z ∧ PI (fun _ => True) ((cd z).map sgn) M1) : diS a δ M PI := h
theorem x_iR1 {PI : (Mem → Prop) → List D → Mem → Prop} (h : t δ M fun xs M1 => ∃ j : Int, xs = [.int j] ∧ -(2 ^ 62) ≤ j ∧ j < 2 ^ 62 ∧ PI (fun _ => True) (rgD 0 j) M1) : diR1 t δ M PI := h
theorem x_iR2 {PI : (Mem → Prop) → List D → Mem → Prop} (h : t δ M fun xs M1 => ∃ i j : Int, xs = [.int i, .int j] ∧ (-(2 ^ 62) ≤ i ∧ i < 2 ^ 62 ∧ -(2 ^ 62) ≤ j ∧ j < 2 ^ 62) ∧ PI (fun _ => True) (rgD i j) M1) : diR2 t δ M PI := h
theorem x_tfE {p : List D → Prop} {xs : List D} (h : p xs) : ∃ ys, isTF (D.tup xs) ys ∧ p ys := ⟨xs, rfl, h⟩
theorem x_tfF {p : List D → Prop} {xs : List D} (h : p xs) : ∃ ys, isTF (D.ftp xs) ys ∧ p ys := ⟨xs, rfl, h⟩
theorem x_tupE {p : List D → Prop} {xs : List D} (h : p xs) : ∃ ys, D.tup xs = .tup ys ∧ p ys := ⟨xs, rfl, h⟩
theorem x_strE {p : Str → Prop} {xs : Str} (h : p xs) : ∃ ys, D.str xs = .str ys ∧ p ys := ⟨xs, rfl, h⟩
theorem x_r1 {p : Int → Prop} {n : Int} (h : p n) : ∃ j : Int, [D.int n] = [.int j] ∧ p j := ⟨n, rfl, h⟩
theorem x_r2 {p : Int → Int → Prop} {n m : Int} (h : p n m) : ∃ i j : Int, [D.int n, D.int m] = [.int i, .int j] ∧ p i j := ⟨n, m, rfl, h⟩
theorem x_ite (c : Prop) [Decidable c] {A B : Prop} (h1 : c → A) (h2 : ¬ c → B) : if decide c = true then A else B := by
  by_cases z : c
  · rw [decide_eq_true z, if_pos rfl]; exact h1 z
  · rw [decide_eq_false z, if_neg Bool.false_ne_true]; exact h2 z
theorem x_iten {c : Prop} [Decidable c] {A B : Prop} (h1 : ¬ c → A) (h2 : c → B) : if (!decide c) = true then A else B := by
  by_cases z : c
  · rw [decide_eq_true z]; exact h2 z
  · rw [decide_eq_false z]; exact h1 z
theorem x_iteT {c : Prop} [Decidable c] {A B : Prop} (z : c) (h : A) : if decide c = true then A else B := by rw [decide_eq_true z, if_pos rfl]; exact h
theorem x_iteF {c : Prop} [Decidable c] {A B : Prop} (z : ¬ c) (h : B) : if decide c = true then A else B := by rw [decide_eq_false z, if_neg Bool.false_ne_true]; exact h
theorem x_itenT {c : Prop} [Decidable c] {A B : Prop} (z : ¬ c) (h : A) : if (!decide c) = true then A else B := by rw [decide_eq_false z]; exact h
theorem x_itenF {c : Prop} [Decidable c] {A B : Prop} (z : c) (h : B) : if (!decide c) = true then A else B := by rw [decide_eq_true z]; exact h
theorem x_true {A B : Prop} (h : A) : if true = true then A else B := by rw [if_pos rfl]; exact h
theorem x_false {A B : Prop} (h : B) : if false = true then A else B := by rw [if_neg Bool.false_ne_true]; exact h
theorem x_nfalse {A B : Prop} (h : A) : if (!false) = true then A else B := by simpa using h
theorem x_ntrue {A B : Prop} (h : B) : if (!true) = true then A else B := by simpa using h
end
end V
namespace V
open PySem PySem.Spec PyProof.Rows L2 U StX
def enumD (xs : List D) : List D := xs.mapIdx fun i d => .tup [.int (i : Nat), d]
def zipD (xs ys : List D) : List D := (xs.zip ys).map fun p => .tup [p.1, p.2]
def diET (a : DA) : DI := fun δ M P => a δ M fun vs M1 => ∃ x xs, vs = [x] ∧ isTF x xs ∧ P (fun _ => True) (enumD xs) M1
def diE (a : DA) : DI := fun δ M P => a δ M fun vs M1 => ∃ xs, vs = [.lst xs] ∧ P (fun _ => True) (enumD xs) M1
def diZ (a : DA) : DI := fun δ M P => a δ M fun vs M1 => ∃ xs ys, vs = [.lst xs, .lst ys] ∧ P (fun _ => True) (zipD xs ys) M1
theorem enumD_len (xs : List D) : (enumD xs).length = xs.length := by simp [enumD]
theorem enumD_get {xs : List D} {i : Nat} {d : D} (h : xs[i]? = some d) : (enumD xs)[i]? = some (.tup [.int (i : Nat), d]) := by simp [enumD, h]
theorem zipD_len (xs ys : List D) : (zipD xs ys).length = min xs.length ys.length := by simp [zipD]
theorem zipD_get {xs ys : List D} {i : Nat} {d e : D} (h : xs[i]? = some d) (k : ys[i]? = some e) : (zipD xs ys)[i]? = some (.tup [d, e]) := by
  unfold zipD
  have e1 : (xs.zip ys)[i]? = some (d, e) := List.getElem?_zip_eq_some.mpr ⟨h, k⟩
  rw [List.getElem?_map, e1]
  rfl
section
variable {K : PySem.W.Frag} {tt : TA} {dd : DA}
instance pu_iET [A : PuA tt dd] : PuI (iEnumT K tt) (diET dd) := ⟨fun S M σ δ H P R w e h k =>
  A.run S M σ δ H _ _ w e h fun d S1 M1 v H1 p1 t1 w1 h1 => by
    obtain ⟨x, xs, rfl, hx, p1⟩ := p1
    match v, h1 with
    | [u], .cons h2 .nil =>
      obtain ⟨a, vs0, rfl, n0, ha0, hs0⟩ := tf_get h2 hx
      have st := stay_tf w1 h2 hx
      obtain ⟨vs, ha, hs⟩ := st _ _ _ .refl w1 trivial
      refine ⟨a, vs, rfl, Or.inl ha, k _ _ S1 M1 H1 _ p1 t1 w1 ⟨fun S' M' H' t w' _ => ?_, fun i S' M' H' hi t w' _ => ?_, fun i S' M' H' x H2 hi t w' _ y => ?_⟩⟩
      · obtain ⟨us, h3, h4⟩ := st _ _ _ t w' trivial
        exact ⟨us, Or.inl h3, by rw [enumD_len, h4.length]⟩
      · obtain ⟨us, h3, h4⟩ := st _ _ _ t w' trivial
        rw [enumD_len] at hi
        have hl := h4.length
        exact ⟨us, us[i], Or.inl h3, at_some (by omega)⟩
      · obtain ⟨us, h3, h4⟩ := st _ _ _ t w' trivial
        obtain ⟨T, x0, rfl, nT, rfl, q⟩ := y
        obtain ⟨d, e1, e2⟩ := h4.getV (q us (Or.inl h3))
        exact ⟨Same.new nT, _, enumD_get e1, .tup (w'.ns nT) upd_same (.cons (.int _) (.cons (e2.sm (Same.new nT)) .nil))⟩⟩
instance pu_iE [A : PuA tt dd] : PuI (iEnum K tt) (diE dd) := ⟨fun S M σ δ H P R w e h k =>
  A.run S M σ δ H _ _ w e h fun d S1 M1 v H1 p1 t1 w1 h1 => by
    obtain ⟨xs, rfl, p1⟩ := p1
    match v, h1 with
    | [.ref a], .cons h2 .nil =>
      have st := stay_lst w1 h2
      obtain ⟨vs, ha, hs⟩ := st _ _ _ .refl w1 trivial
      refine ⟨a, vs, rfl, SqL.of ha, k _ _ S1 M1 H1 _ p1 t1 w1 ⟨fun S' M' H' t w' _ => ?_, fun i S' M' H' hi t w' _ => ?_, fun i S' M' H' x H2 hi t w' _ y => ?_⟩⟩
      · obtain ⟨us, h3, h4⟩ := st _ _ _ t w' trivial
        exact ⟨us, SqL.of h3, by rw [enumD_len, h4.length]; exact Nat.le_refl _⟩
      · obtain ⟨us, h3, h4⟩ := st _ _ _ t w' trivial
        rw [enumD_len] at hi
        have hl := h4.length
        exact ⟨us, us[i], SqL.of h3, at_some (by omega)⟩
      · obtain ⟨us, h3, h4⟩ := st _ _ _ t w' trivial
        obtain ⟨T, x0, rfl, nT, rfl, q⟩ := y
        obtain ⟨d, e1, e2⟩ := h4.getV (q us (SqL.of h3))
        exact ⟨Same.new nT, _, enumD_get e1, .tup (w'.ns nT) upd_same (.cons (.int _) (.cons (e2.sm (Same.new nT)) .nil))⟩⟩
theorem pi_zipK {X : Cx} (hK : X.K = K) {e e2 : Expr} {ta : TA} {p pos tpos : Pos} {elts : List Expr} {kk : Nat} (hg : Gl X "zip") (hm : X.mg "zip" = none) (ha : PA X [e, e2] ta)
    (hs : starEach [e, e2] X.env = (false, eval e X.env) :: starEach [e2] X.env := by rfl) (hpl : (backTo pos (starEach [e2] X.env)).any (·.1) = false := by rfl) :
    PI X (.Tuple elts kk tpos) (.Call (.Name "zip" p) [e, e2] [] pos) (iZip K ta) := by
  subst hK
  exact pi_zip hg hm ha hs hpl
instance pu_iZ [A : PuA tt dd] : PuI (iZip K tt) (diZ dd) := ⟨fun S M σ δ H P R w e h k =>
  A.run S M σ δ H _ _ w e h fun d S1 M1 v H1 p1 t1 w1 h1 => by
    obtain ⟨xs, ys, rfl, p1⟩ := p1
    match v, h1 with
    | [.ref a, .ref b], .cons h2 (.cons h3 .nil) =>
      have sa := stay_lst w1 h2
      have sb := stay_lst w1 h3
      obtain ⟨vs, ha, hs⟩ := sa _ _ _ .refl w1 trivial
      obtain ⟨us, hb, ht⟩ := sb _ _ _ .refl w1 trivial
      refine ⟨a, b, vs, us, rfl, SqL.of ha, SqL.of hb, k _ _ S1 M1 H1 _ p1 t1 w1 ⟨fun S' M' H' t w' _ => ?_, fun i S' M' H' hi t w' _ => ?_, fun i S' M' H' x H2 hi t w' _ y => ?_⟩⟩
      · obtain ⟨vs, h4, h5⟩ := sa _ _ _ t w' trivial
        obtain ⟨us, h6, h7⟩ := sb _ _ _ t w' trivial
        refine ⟨vs, us, SqL.of h4, SqL.of h6, ?_⟩
        rw [zipD_len, h5.length, h7.length]
        omega
      · obtain ⟨vs, h4, h5⟩ := sa _ _ _ t w' trivial
        obtain ⟨us, h6, h7⟩ := sb _ _ _ t w' trivial
        rw [zipD_len] at hi
        have l1 := h5.length
        have l2 := h7.length
        exact ⟨vs, us, vs[i], us[i], SqL.of h4, SqL.of h6, at_some (by omega), at_some (by omega)⟩
      · obtain ⟨vs, h4, h5⟩ := sa _ _ _ t w' trivial
        obtain ⟨us, h6, h7⟩ := sb _ _ _ t w' trivial
        obtain ⟨T, x0, y0, rfl, nT, rfl, q1, q2⟩ := y
        obtain ⟨d, e1, e2⟩ := h5.getV (q1 vs (SqL.of h4))
        obtain ⟨d', e3, e4⟩ := h7.getV (q2 us (SqL.of h6))
        exact ⟨Same.new nT, _, zipD_get e1 e3, .tup (w'.ns nT) upd_same (.cons (e2.sm (Same.new nT)) (.cons (e4.sm (Same.new nT)) .nil))⟩⟩
end
section
variable {δ : Dl} {M : Mem} {t : DA} {PI : (Mem → Prop) → List D → Mem → Prop}
theorem x_tf1 {p : List D → Prop} {ys : List D} (h : p ys) : ∃ x xs, [D.tup ys] = [x] ∧ isTF x xs ∧ p xs := ⟨_, ys, rfl, rfl, h⟩
theorem x_tf1F {p : List D → Prop} {ys : List D} (h : p ys) : ∃ x xs, [D.ftp ys] = [x] ∧ isTF x xs ∧ p xs := ⟨_, ys, rfl, rfl, h⟩
theorem x_iET (h : t δ M fun vs M1 => ∃ x xs, vs = [x] ∧ isTF x xs ∧ PI (fun _ => True) (enumD xs) M1) : diET t δ M PI := h
theorem x_iE (h : t δ M fun vs M1 => ∃ xs, vs = [.lst xs] ∧ PI (fun _ => True) (enumD xs) M1) : diE t δ M PI := h
theorem x_iZ (h : t δ M fun vs M1 => ∃ xs ys, vs = [.lst xs, .lst ys] ∧ PI (fun _ => True) (zipD xs ys) M1) : diZ t δ M PI := h
theorem x_tup1 {p : List D → Prop} {xs : List D} (h : p xs) : ∃ ys, [D.tup xs] = [.tup ys] ∧ p ys := ⟨xs, rfl, h⟩
theorem x_lst1 {p : List D → Prop} {xs : List D} (h : p xs) : ∃ ys, [D.lst xs] = [.lst ys] ∧ p ys := ⟨xs, rfl, h⟩
theorem x_lst2 {p : List D → List D → Prop} {xs ys : List D} (h : p xs ys) : ∃ us vs, [D.lst xs, D.lst ys] = [.lst us, .lst vs] ∧ p us vs := ⟨xs, ys, rfl, h⟩
theorem x_starT {p : List D → Prop} {xs : List D} (h : p xs) : ∃ us, (isTF (D.tup xs) us ∨ D.tup xs = .lst us ∨ ∃ p, D.tup xs = .ptr p ∧ M p = some (.lst us)) ∧ p us := ⟨xs, .inl rfl, h⟩
theorem x_starF {p : List D → Prop} {xs : List D} (h : p xs) : ∃ us, (isTF (D.ftp xs) us ∨ D.ftp xs = .lst us ∨ ∃ p, D.ftp xs = .ptr p ∧ M p = some (.lst us)) ∧ p us := ⟨xs, .inl rfl, h⟩
theorem x_starL {p : List D → Prop} {xs : List D} (h : p xs) : ∃ us, (isTF (D.lst xs) us ∨ D.lst xs = .lst us ∨ ∃ p, D.lst xs = .ptr p ∧ M p = some (.lst us)) ∧ p us := ⟨xs, .inr (.inl rfl), h⟩
variable {P : QD}
theorem x_eqIN {x : Int} (h : P (.bl false) M) : rEq1 (.int x) .non M P := h
theorem x_eqNI {x : Int} (h : P (.bl false) M) : rEq1 .non (.int x) M P := h
theorem x_eqSN {x : Str} (h : P (.bl false) M) : rEq1 (.str x) .non M P := h
theorem x_eqNS {x : Str} (h : P (.bl false) M) : rEq1 .non (.str x) M P := h
theorem x_eqNN (h : P (.bl true) M) : rEq1 .non .non M P := h
theorem x_eqBB {x y : Bool} (h : P (.bl (decide (x = y))) M) : rEq1 (.bl x) (.bl y) M P := h
theorem x_neIN {x : Int} (h : P (.bl true) M) : rNe1 (.int x) .non M P := h
theorem x_neNI {x : Int} (h : P (.bl true) M) : rNe1 .non (.int x) M P := h
theorem x_neSN {x : Str} (h : P (.bl true) M) : rNe1 (.str x) .non M P := h
theorem x_neNS {x : Str} (h : P (.bl true) M) : rNe1 .non (.str x) M P := h
theorem x_neNN (h : P (.bl false) M) : rNe1 .non .non M P := h
theorem x_neBB {x y : Bool} (h : P (.bl (!decide (x = y))) M) : rNe1 (.bl x) (.bl y) M P := h
end
end V
namespace V
open PySem PySem.Spec PyProof.Rows L2 U StX
/-- '0' at one place, '.' at all others -/
def wCode (c : Option Nat) (i : Nat) : Nat := if c = some i then 48 else 46
def withF (n : Nat) (p : Option Nat) : Str := ofL ((List.range n).map (wCode p))
def ppF : D → D → Option Nat
  | .int i, .int j => some (max i.toNat j.toNat)
  | .int i, .str z => if z = Str.ofString "." then some i.toNat else none
  | .str z, .int j => if z = Str.ofString "." then some j.toNat else none
  | _, _ => none
def maxL (l : List Nat) : Nat := l.foldl max 0
theorem foldl_max (l : List Nat) : ∀ a, l.foldl max a = max a (maxL l) := by
  unfold maxL
  induction l with
  | nil => intro a; simp
  | cons x l ih =>
    intro a
    rw [List.foldl_cons, List.foldl_cons, ih (max a x), ih (max 0 x)]
    omega
theorem maxL_cons (x : Nat) (l : List Nat) : maxL (x :: l) = max x (maxL l) := by
  show (x :: l).foldl max 0 = _
  rw [List.foldl_cons, foldl_max]
  omega
theorem le_maxL {l : List Nat} {x : Nat} (h : x ∈ l) : x ≤ maxL l := by
  induction l with
  | nil => cases h
  | cons y l ih =>
    rw [maxL_cons]
    rcases List.mem_cons.mp h with z | z
    · omega
    · have := ih z; omega
theorem maxL_mem {l : List Nat} (h : l ≠ []) : maxL l ∈ l := by
  induction l with
  | nil => exact (h rfl).elim
  | cons y l ih =>
    rw [maxL_cons]
    by_cases e : l = []
    · subst e
      rw [show maxL [] = 0 from rfl, Nat.max_eq_left (Nat.zero_le _)]
      exact List.mem_cons_self
    · have := ih e
      by_cases c : y ≤ maxL l
      · rw [Nat.max_eq_right c]
        exact List.mem_cons_of_mem _ this
      · rw [Nat.max_eq_left (by omega)]
        exact List.mem_cons_self
/-- the unlike pairs -/
def unl (p q : List D) : List (D × D) := (p.zip q).filter fun x => !D.eqb x.1 x.2
def pps (p q : List D) : List (Option Nat) := (unl p q).map fun x => ppF x.1 x.2
/-- the least text of n signs that two plans show unlike, if any -/
def ptF (n : Nat) (p q : List D) : Option Str :=
  if p.length ≠ q.length then some (withF n none)
  else if (pps p q).length = 0 then none
  else some (withF n (if none ∈ pps p q then none else some (maxL ((pps p q).filterMap id))))
theorem sgn_inj {a b : Nat} (h : sgn a = sgn b) : a = b := by
  have e : one a = one b := by injection h
  have : cd (one a) = cd (one b) := by rw [e]
  exact (List.cons.inj this).1
theorem ppF_is (i c : Nat) : ppF (pl i) (sgn c) = if one c = Str.ofString "." then some i else none := by
  show (if one c = Str.ofString "." then some ((i : Int).toNat) else none) = _
  rw [Int.toNat_natCast]
theorem ppF_si (i c : Nat) : ppF (sgn c) (pl i) = if one c = Str.ofString "." then some i else none := by
  show (if one c = Str.ofString "." then some ((i : Int).toNat) else none) = _
  rw [Int.toNat_natCast]
theorem zip_pl {n : Nat} {p q : List D} (hp : ∀ d ∈ p, isPl n d) (hq : ∀ d ∈ q, isPl n d) : ∀ x ∈ p.zip q, isPl n x.1 ∧ isPl n x.2 := fun x hx =>
  ⟨hp _ (List.of_mem_zip hx).1, hq _ (List.of_mem_zip hx).2⟩
/-- plans of great lengths -/
def planR (row : List Sh) (n : Nat) : List D := cutR sgn row (nums n)
/-- searching -/
theorem find_some {α : Type} {f : Nat → Option α} {N i : Nat} {v : α} (hi : i < N) (hv : f i = some v) (h : ∀ j, j < i → f j = none) : (List.range N).findSome? f = some v := by
  induction N with
  | zero => omega
  | succ N ih =>
    rw [List.range_succ, List.findSome?_append]
    by_cases c : i < N
    · rw [ih c]; rfl
    · have e : i = N := by omega
      subst e
      have : (List.range i).findSome? f = none := by
        rw [List.findSome?_eq_none_iff]
        intro x hx
        exact h x (List.mem_range.mp hx)
      rw [this]
      simp [hv]
theorem find_none {α : Type} {f : Nat → Option α} {N : Nat} (h : ∀ j, j < N → f j = none) : (List.range N).findSome? f = none := by
  rw [List.findSome?_eq_none_iff]
  intro x hx
  exact h x (List.mem_range.mp hx)
/-- the least text that two rows show unlike -/
def fuF (r q : List Sh) : Option Str := (List.range 82).findSome? fun n => ptF n (planR r n) (planR q n)
/-- .. that is shown otherwise when the row is applied again -/
def fsF (r : List Sh) : Option Str := (List.range 82).findSome? fun n => ptF n (planR r n) (cutR sgn r (planR r n))
def optD : Option Str → D
  | none => .non
  | some z => .str z
end V
namespace V
open PySem PySem.Spec PyProof.Rows L2 U StX RZ
section
variable {K : PySem.W.Frag} {tt : TA} {dd : DA}
def diZT (a : DA) : DI := fun δ M P => a δ M fun vs M1 => ∃ xs ys, vs = [.tup xs, .tup ys] ∧ P (fun _ => True) (zipD xs ys) M1
instance pu_iZT [A : PuA tt dd] : PuI (iZipA K tt) (diZT dd) := ⟨fun S M σ δ H P R w e h k =>
  A.run S M σ δ H _ _ w e h fun d S1 M1 v H1 p1 t1 w1 h1 => by
    obtain ⟨xs, ys, rfl, p1⟩ := p1
    match v, h1 with
    | [.ref a, .ref b], .cons h2 (.cons h3 .nil) =>
      have sa := stay_tup w1 h2
      have sb := stay_tup w1 h3
      obtain ⟨vs, ha, hs⟩ := sa _ _ _ .refl w1 trivial
      obtain ⟨us, hb, ht⟩ := sb _ _ _ .refl w1 trivial
      refine ⟨a, b, vs, us, rfl, .inr ⟨SqT.of ha, SqT.of hb, k _ _ S1 M1 H1 _ p1 t1 w1 ⟨fun S' M' H' t w' _ => ?_, fun i S' M' H' hi t w' _ => ?_, fun i S' M' H' x H2 hi t w' _ y => ?_⟩⟩⟩
      · obtain ⟨vs, h4, h5⟩ := sa _ _ _ t w' trivial
        obtain ⟨us, h6, h7⟩ := sb _ _ _ t w' trivial
        refine ⟨vs, us, SqT.of h4, SqT.of h6, ?_⟩
        rw [zipD_len, h5.length, h7.length]
        omega
      · obtain ⟨vs, h4, h5⟩ := sa _ _ _ t w' trivial
        obtain ⟨us, h6, h7⟩ := sb _ _ _ t w' trivial
        rw [zipD_len] at hi
        have l1 := h5.length
        have l2 := h7.length
        exact ⟨vs, us, vs[i], us[i], SqT.of h4, SqT.of h6, at_some (by omega), at_some (by omega)⟩
      · obtain ⟨vs, h4, h5⟩ := sa _ _ _ t w' trivial
        obtain ⟨us, h6, h7⟩ := sb _ _ _ t w' trivial
        obtain ⟨T, x0, y0, rfl, nT, rfl, q1, q2⟩ := y
        obtain ⟨d, e1, e2⟩ := h5.getV (q1 vs (SqT.of h4))
        obtain ⟨d', e3, e4⟩ := h7.getV (q2 us (SqT.of h6))
        exact ⟨Same.new nT, _, zipD_get e1 e3, .tup (w'.ns nT) upd_same (.cons (e2.sm (Same.new nT)) (.cons (e4.sm (Same.new nT)) .nil))⟩⟩
end
def sPar3 (i j l : Nat) (t : DA) : DS := fun nx _ _ _ δ M => t δ M fun xs M1 => ∃ x y z, xs = [x, y, z] ∧ nx (((δ.set i (some x)).set j (some y)).set l (some z)) M1
instance pu_par3 {i j l : Nat} {tt : TA} {dd : DA} [A : PuA tt dd] : PuS (tPar3 i j l tt) (sPar3 i j l dd) := ⟨fun S M σ δ H nx rt bk ct E w e h lk =>
  A.run S M σ δ H _ _ w e h fun d S1 M1 v H1 p1 t1 w1 h1 => by
    obtain ⟨x, y, z, rfl, p1⟩ := p1
    match v, h1 with
    | [u, v, q], .cons h2 (.cons h3 (.cons h4 .nil)) => exact ⟨u, v, q, rfl, lk.nx _ S1 M1 _ H1 p1 t1 w1 ((((e.step w t1).set h2).set h3).set h4)⟩⟩
theorem x_par3 {i j l : Nat} {t : DA} {nx bk ct : QS} {rt : QD} {δ : Dl} {M : Mem} (h : t δ M fun xs M1 => ∃ x y z, xs = [x, y, z] ∧ nx (((δ.set i (some x)).set j (some y)).set l (some z)) M1) : sPar3 i j l t nx rt bk ct δ M := h
theorem x_three {p : D → D → D → Prop} {c d e : D} (h : p c d e) : ∃ x y z, [c, d, e] = [x, y, z] ∧ p x y z := ⟨c, d, e, rfl, h⟩
def rMulS1 : DR := fun x y M P => ∃ z n, x = .str z ∧ y = .int n ∧ z.length ≤ 2000 ∧ 0 ≤ n ∧ n ≤ 8000 ∧ P (.str (Txt.mul z n)) M
instance op_mulS1 : OpD rMulS rMulS1 := ⟨fun S M H x y dx dy P Q w hx hy h k => by
  obtain ⟨z, n, rfl, rfl, h1, h2, h3, p⟩ := h
  cases hx; cases hy
  exact ⟨z, n, rfl, rfl, h1, h2, h3, k _ S M _ H p .refl w (.str _)⟩⟩
theorem x_iZT {δ : Dl} {M : Mem} {t : DA} {PI : (Mem → Prop) → List D → Mem → Prop} (h : t δ M fun vs M1 => ∃ xs ys, vs = [.tup xs, .tup ys] ∧ PI (fun _ => True) (zipD xs ys) M1) : diZT t δ M PI := h
theorem x_tup2 {p : List D → List D → Prop} {xs ys : List D} (h : p xs ys) : ∃ us vs, [D.tup xs, D.tup ys] = [.tup us, .tup vs] ∧ p us vs := ⟨xs, ys, rfl, h⟩
end V
namespace V
open PySem PySem.Spec PyProof.Rows L2 U StX
/-- t + u -/
def rCat1 : DR := fun x y M P => ∃ xs ys, x = .tup xs ∧ y = .tup ys ∧ xs.length + ys.length ≤ sizeLine ∧ P (.tup (xs ++ ys)) M
theorem op_catK {X : Cx} {K : PySem.W.Frag} (h : X.K = K) : OpR X (binaryOp .Add) (rCatA K) := by subst h; exact op_catA
instance op_cat1 {K : PySem.W.Frag} : OpD (rCatA K) rCat1 := ⟨fun S M H x y dx dy P Q w hx hy h k => by
  obtain ⟨xs, ys, rfl, rfl, hl, p⟩ := h
  cases hx with
  | @tup a vs _ n ha hs =>
    cases hy with
    | @tup b us _ m hb ht =>
      refine ⟨a, b, vs, us, rfl, rfl, SqT.of ha, SqT.of hb, by rw [hs.length, ht.length]; exact hl, fun e => ?_, fun e1 e2 => ?_, fun e1 e2 q nq => ?_⟩
      · subst e
        cases hs
        exact k _ S M _ H p .refl w (.tup m hb ht)
      · subst e2
        cases ht
        rw [List.append_nil] at p
        exact k _ S M _ H p .refl w (.tup n ha hs)
      · exact k _ S M _ _ p (.new nq) (w.new nq) (.tup (w.ns nq) upd_same ((hs.append ht).sm (Same.new nq)))⟩
theorem x_cat {xs ys : List D} {M : Mem} {P : QD} (h : xs.length + ys.length ≤ sizeLine) (p : P (.tup (xs ++ ys)) M) : rCat1 (.tup xs) (.tup ys) M P := ⟨xs, ys, rfl, rfl, h, p⟩
end V
namespace V
open PySem PySem.Spec PyProof.Rows L2 U StX
def rLtD (K : PySem.W.Frag) : R2 := fun x y H Q => ∃ d e, Dp K H x d ∧ Dp K H y e ∧ PySem.W.alike d e = true ∧ d ≠ .none ∧ min d.depth e.depth < 64 ∧ Q (.bl (PySem.W.dataLt d e)) H
def rLtP1 : DR := fun x y M P => ∃ (n m : Int) (z u : Str), x = .tup [.int n, .str z] ∧ y = .tup [.int m, .str u] ∧ P (.bl (if n = m then decide (cd z < cd u) else decide (n < m))) M
theorem eqv_str (z u : Str) : PyData.eqv (.str z) (.str u) = decide (z = u) := by
  simp only [PyData.eqv]
  by_cases h : z = u
  · simp [h]
  · simp [h]
theorem lt_np {n m : Int} {z u : Str} : PySem.W.dataLt (.tuple [.int n, .str z]) (.tuple [.int m, .str u]) = if n = m then decide (cd z < cd u) else decide (n < m) := by
  rw [PySem.W.dataLt_pair (by simp [PySem.W.alike]) (by simp [PySem.W.alike]), PySem.W.dataLt_int, PySem.W.dataLt_str, eqv_str]
  simp only [PyData.eqv, beq_iff_eq]
  by_cases h : n = m
  · simp only [h, if_true]
    by_cases k : z = u
    · subst k
      rw [decide_eq_true rfl, if_pos rfl]
      exact (decide_eq_false (List.lt_irrefl _)).symm
    · rw [decide_eq_false k, if_neg Bool.false_ne_true]
      rfl
  · simp only [h, if_false]
instance op_ltP1 {K : PySem.W.Frag} : OpD (rLtD K) rLtP1 := ⟨fun S M H x y dx dy P Q w hx hy h k => by
  obtain ⟨n, m, z, u, rfl, rfl, p⟩ := h
  have e1 : D.py (.tup [.int n, .str z]) = some (.tuple [.int n, .str z]) := by simp [D.py, D.pys]
  have e2 : D.py (.tup [.int m, .str u]) = some (.tuple [.int m, .str u]) := by simp [D.py, D.pys]
  refine ⟨_, _, Dt.dp _ hx e1, Dt.dp _ hy e2, by simp [PySem.W.alike, PySem.W.alikeAll], by simp, by simp [PyData.depth, PyData.depthAll], ?_⟩
  rw [lt_np]
  exact k _ S M _ H p .refl w (.bl _)⟩
theorem nlow : ∀ (k : Nat) (l : List Nat), (∀ c ∈ l, 46 ≤ c ∧ c ≠ 47) → l.length = k → ¬ l < List.replicate k 46
  | 0, l, _, _ => List.not_lt_nil l
  | k + 1, [], _, h => by simp at h
  | k + 1, x :: t, hc, h => by
    rw [List.replicate_succ, List.cons_lt_cons_iff]
    rintro (z | ⟨_, z⟩)
    · have := (hc x (by simp)).1; omega
    · exact nlow k t (fun c h => hc c (by simp [h])) (by simpa using h) z
theorem low : ∀ (m k : Nat) (l : List Nat), (∀ c ∈ l, 46 ≤ c ∧ c ≠ 47) → l.length = m + 1 + k → l < List.replicate m 46 ++ 48 :: List.replicate k 46 → ∀ a, a ≤ m → l[a]? = some 46
  | _, _, [], _, h, _, _, _ => by simp at h; omega
  | 0, k, x :: t, hc, h, lt, a, ha => by
    have e : a = 0 := by omega
    subst e
    have hx := hc x (by simp)
    simp only [List.replicate_zero, List.nil_append, List.cons_lt_cons_iff] at lt
    rcases lt with z | ⟨_, z⟩
    · have : x = 46 := by omega
      rw [this]; rfl
    · exact (nlow k t (fun c h => hc c (by simp [h])) (by simp at h; omega) z).elim
  | m + 1, k, x :: t, hc, h, lt, a, ha => by
    have hx := hc x (by simp)
    simp only [List.replicate_succ, List.cons_append, List.cons_lt_cons_iff] at lt
    rcases lt with z | ⟨e, z⟩
    · omega
    · cases a with
      | zero => rw [e]; rfl
      | succ a => exact low m k t (fun c h => hc c (by simp [h])) (by simp at h; omega) z a (by omega)
end V
namespace V
open PySem PySem.Spec PyProof.Rows L2 U StX
def kD : Key → D
  | .inl i => .int i
  | .inr x => .str x
def valD (kvs : List (Key × D)) (k : Key) : Option D := (kvs.find? fun kv => decide (kv.1 = k)).map (·.2)
def putDk (kvs : List (Key × D)) (k : Key) (d : D) : List (Key × D) :=
  if (kvs.any fun kv => decide (kv.1 = k)) = true then kvs.map (fun kv => if kv.1 = k then (kv.1, d) else kv) else kvs ++ [(k, d)]
theorem valD_pos {p : Key × D} {r : List (Key × D)} {k : Key} (e : p.1 = k) : valD (p :: r) k = some p.2 := by simp [valD, List.find?_cons, e]
theorem valD_neg {p : Key × D} {r : List (Key × D)} {k : Key} (e : ¬ p.1 = k) : valD (p :: r) k = valD r k := by simp [valD, List.find?_cons, e]
section
variable {S S' : Addr → Prop} {M M' : Mem} {H H' : Hp}
theorem dt_kD {v : V} {k : Key} (h : Dt S H v (kD k)) : v = kV k := by
  cases k with
  | inl i => cases h; rfl
  | inr x => cases h; rfl
theorem val_held : ∀ {ws : List (Key × V)} {kvs : List (Key × D)}, ws.map (·.1) = kvs.map (·.1) → DtA S H (ws.map (·.2)) (kvs.map (·.2)) → ∀ k, (valD kvs k = none ∧ valV ws k = none) ∨ ∃ d v, valD kvs k = some d ∧ valV ws k = some v ∧ Dt S H v d
  | [], [], _, _, k => .inl ⟨rfl, rfl⟩
  | [], _ :: _, h, _, _ => by simp at h
  | _ :: _, [], h, _, _ => by simp at h
  | (a, v) :: ws, (b, d) :: kvs, hk, hs, k => by
    simp only [List.map_cons, List.cons.injEq] at hk
    obtain ⟨rfl, hk⟩ := hk
    cases hs with
    | cons h1 h2 =>
      by_cases c : a = k
      · exact .inr ⟨d, v, valD_pos c, valV_pos c, h1⟩
      · rw [valD_neg (p := (a, d)) c, valV_neg (p := (a, v)) c]
        exact val_held hk h2 k
theorem map_held {v : V} {d : D} (hv : Dt S H v d) (k : Key) : ∀ {ws : List (Key × V)} {kvs : List (Key × D)}, ws.map (·.1) = kvs.map (·.1) → DtA S H (ws.map (·.2)) (kvs.map (·.2)) →
    (ws.map (fun kv => if kv.1 = k then (kv.1, v) else kv)).map (·.1) = (kvs.map (fun kv => if kv.1 = k then (kv.1, d) else kv)).map (·.1) ∧
    DtA S H ((ws.map (fun kv => if kv.1 = k then (kv.1, v) else kv)).map (·.2)) ((kvs.map (fun kv => if kv.1 = k then (kv.1, d) else kv)).map (·.2))
  | [], [], _, _ => ⟨rfl, .nil⟩
  | [], _ :: _, h, _ => by simp at h
  | _ :: _, [], h, _ => by simp at h
  | (a, x) :: ws, (b, y) :: kvs, hk, hs => by
    simp only [List.map_cons, List.cons.injEq] at hk
    obtain ⟨rfl, hk⟩ := hk
    cases hs with
    | cons h1 h2 =>
      obtain ⟨e1, e2⟩ := map_held hv k hk h2
      simp only [List.map_cons]
      by_cases c : a = k
      · rw [if_pos c, if_pos c]
        exact ⟨by rw [e1], .cons hv e2⟩
      · rw [if_neg c, if_neg c]
        exact ⟨by rw [e1], .cons h1 e2⟩
theorem any_held (k : Key) : ∀ {ws : List (Key × V)} {kvs : List (Key × D)}, ws.map (·.1) = kvs.map (·.1) → (ws.any fun kv => decide (kv.1 = k)) = (kvs.any fun kv => decide (kv.1 = k))
  | [], [], _ => rfl
  | [], _ :: _, h => by simp at h
  | _ :: _, [], h => by simp at h
  | (a, x) :: ws, (b, y) :: kvs, hk => by
    simp only [List.map_cons, List.cons.injEq] at hk
    obtain ⟨rfl, hk⟩ := hk
    rw [List.any_cons, List.any_cons, any_held k hk]
theorem put_heldK {v : V} {d : D} (hv : Dt S H v d) (k : Key) {ws : List (Key × V)} {kvs : List (Key × D)} (hk : ws.map (·.1) = kvs.map (·.1)) (hs : DtA S H (ws.map (·.2)) (kvs.map (·.2))) :
    (putK ws k v).map (·.1) = (putDk kvs k d).map (·.1) ∧ DtA S H ((putK ws k v).map (·.2)) ((putDk kvs k d).map (·.2)) := by
  unfold putK putDk
  rw [any_held k hk]
  by_cases c : (kvs.any fun kv => decide (kv.1 = k)) = true
  · rw [if_pos c, if_pos c]
    exact map_held hv k hk hs
  · rw [if_neg c, if_neg c, List.map_append, List.map_append, List.map_append, List.map_append, hk]
    exact ⟨rfl, hs.snoc hv⟩
theorem len_held {ws : List (Key × V)} {kvs : List (Key × D)} (hk : ws.map (·.1) = kvs.map (·.1)) : ws.length = kvs.length := by
  have := congrArg List.length hk
  rwa [List.length_map, List.length_map] at this
end
def dDNew : DE := fun δ M P => ∀ a, M a = none → P (.ptr a) (mset M a (.dic []))
instance pu_dnew : PuE tDNewK dDNew := ⟨fun S M σ δ H P Q w e h k p hp =>
  k (.ptr p) _ _ (.ref p) _ (h p (w.fresh hp)) (.mutable w hp) (w.mutable hp ⟨[], upd_same, rfl, .nil⟩) (.ptr p)⟩
def dDGet2 (a b c : DE) : DE := fun δ M P => a δ M fun x M1 => ∃ p, x = .ptr p ∧ (∃ kvs, M1 p = some (.dic kvs)) ∧ b δ M1 fun y M2 => c δ M2 fun z M3 => ∃ kvs k, M3 p = some (.dic kvs) ∧ y = kD k ∧ P ((valD kvs k).getD z) M3
instance pu_dget2 {ta tb tc : TE} {da db dc : DE} [A : PuE ta da] [B : PuE tb db] [C : PuE tc dc] : PuE (tDGet2 ta tb tc) (dDGet2 da db dc) := ⟨fun S M σ δ H P Q w e h k =>
  A.run S M σ δ H _ _ w e h fun x S1 M1 v1 H1 p1 t1 w1 h1 => by
    obtain ⟨p, rfl, ⟨kvs, hm⟩, p1⟩ := p1
    cases h1
    obtain ⟨_, ws, ha, _, _⟩ := w1.mem p _ hm
    refine ⟨p, rfl, .inl ⟨ws, .inl ha⟩, B.run S1 M1 σ δ H1 _ _ w1 (e.step w t1) p1 fun y S2 M2 v2 H2 p2 t2 w2 h2 => C.run S2 M2 σ δ H2 _ _ w2 (e.step w (t1.trans t2)) p2 fun z S3 M3 v3 H3 p3 t3 w3 h3 => ?_⟩
    obtain ⟨kvs, k', hm, rfl, p3⟩ := p3
    have ev := dt_kD h2
    subst ev
    obtain ⟨_, ws, ha, hk, hs⟩ := w3.mem p _ hm
    refine ⟨valV ws k', DGet.k ha, ?_⟩
    rcases val_held hk hs k' with ⟨e1, e2⟩ | ⟨d, v, e1, e2, e3⟩
    · rw [e2]
      rw [e1] at p3
      exact k _ _ _ _ _ p3 ((t1.trans t2).trans t3) w3 h3
    · rw [e2]
      rw [e1] at p3
      exact k _ _ _ _ _ p3 ((t1.trans t2).trans t3) w3 e3⟩
def dDSetd (a b c : DE) : DE := fun δ M P => a δ M fun x M1 => ∃ p, x = .ptr p ∧ (∃ kvs, M1 p = some (.dic kvs)) ∧ b δ M1 fun y M2 => c δ M2 fun z M3 => ∃ kvs k, M3 p = some (.dic kvs) ∧ y = kD k ∧ kvs.length < sizeLine ∧
  (∀ d, valD kvs k = some d → P d M3) ∧ (valD kvs k = none → P z (mset M3 p (.dic (putDk kvs k z))))
instance pu_dsetd {ta tb tc : TE} {da db dc : DE} [A : PuE ta da] [B : PuE tb db] [C : PuE tc dc] : PuE (tDSetd ta tb tc) (dDSetd da db dc) := ⟨fun S M σ δ H P Q w e h k =>
  A.run S M σ δ H _ _ w e h fun x S1 M1 v1 H1 p1 t1 w1 h1 => by
    obtain ⟨p, rfl, ⟨kvs, hm⟩, p1⟩ := p1
    cases h1
    obtain ⟨_, ws, ha, _, _⟩ := w1.mem p _ hm
    refine ⟨p, rfl, .inl ⟨ws, .inl ha⟩, B.run S1 M1 σ δ H1 _ _ w1 (e.step w t1) p1 fun y S2 M2 v2 H2 p2 t2 w2 h2 => C.run S2 M2 σ δ H2 _ _ w2 (e.step w (t1.trans t2)) p2 fun z S3 M3 v3 H3 p3 t3 w3 h3 => ?_⟩
    obtain ⟨kvs, k', hm, rfl, hl, q1, q2⟩ := p3
    have ev := dt_kD h2
    subst ev
    obtain ⟨sp, ws, ha, hk, hs⟩ := w3.mem p _ hm
    have t123 := (t1.trans t2).trans t3
    refine ⟨ws, k', ha, rfl, by rw [len_held hk]; exact hl, fun v hv => ?_, fun hv => ?_⟩
    · rcases val_held hk hs k' with ⟨e1, e2⟩ | ⟨d, v', e1, e2, e3⟩
      · rw [e2] at hv; cases hv
      · rw [e2] at hv; cases hv
        exact k _ _ _ _ _ (q1 d e1) t123 w3 e3
    · rcases val_held hk hs k' with ⟨e1, e2⟩ | ⟨d, v', e1, e2, e3⟩
      · obtain ⟨e4, e5⟩ := put_heldK h3 k' hk hs
        have ex : Ext S3 H3 (upd H3 p (.dK (putK ws k' v3))) := Ext.mut (Ext.refl _) sp
        exact k _ _ _ _ _ (q2 e1) (t123.trans (.change hm)) (w3.change hm ⟨_, upd_same, e4, e5.go ex⟩) (h3.go ex)
      · rw [e2] at hv; cases hv⟩
def sDPutD (a b c : DE) : DS := fun nx rt bk ct δ M => c δ M fun z M1 => a δ M1 fun x M2 => b δ M2 fun y M3 => ∃ p kvs k, x = .ptr p ∧ M3 p = some (.dic kvs) ∧ y = kD k ∧ kvs.length < sizeLine ∧ nx δ (mset M3 p (.dic (putDk kvs k z)))
instance pu_dput {ta tb tc : TE} {da db dc : DE} [A : PuE ta da] [B : PuE tb db] [C : PuE tc dc] : PuS (sDPut ta tb tc) (sDPutD da db dc) := ⟨fun S M σ δ H nx rt bk ct E w e h l =>
  C.run S M σ δ H _ _ w e h fun z S1 M1 v1 H1 p1 t1 w1 h1 => A.run S1 M1 σ δ H1 _ _ w1 (e.step w t1) p1 fun x S2 M2 v2 H2 p2 t2 w2 h2 =>
    B.run S2 M2 σ δ H2 _ _ w2 (e.step w (t1.trans t2)) p2 fun y S3 M3 v3 H3 p3 t3 w3 h3 => by
      obtain ⟨p, kvs, k', rfl, hm, rfl, hl, q⟩ := p3
      have ev := dt_kD h3
      subst ev
      cases h2
      obtain ⟨sp, ws, ha, hk, hs⟩ := w3.mem p _ hm
      have hv := dt_step w1 (t2.trans t3) _ h1
      obtain ⟨e4, e5⟩ := put_heldK hv k' hk hs
      have t123 := (t1.trans t2).trans t3
      have ex : Ext S3 H3 (upd H3 p (.dK (putK ws k' v1))) := Ext.mut (Ext.refl _) sp
      have t4 : Step S M H S3 (mset M3 p (.dic (putDk kvs k' z))) (upd H3 p (.dK (putK ws k' v1))) := t123.trans (.change hm)
      exact ⟨p, _, rfl, DPut.k ha (by rw [len_held hk]; exact hl), l.nx _ _ _ _ _ q t4 (w3.change hm ⟨_, upd_same, e4, e5.go ex⟩) (e.step w t4)⟩⟩
/-- d[k] -/
def dDIx (a b : DE) : DE := fun δ M P => a δ M fun x M1 => b δ M1 fun y M2 => ∃ p kvs k d, x = .ptr p ∧ M2 p = some (.dic kvs) ∧ y = kD k ∧ valD kvs k = some d ∧ P d M2
instance pu_dix {ta tb : TE} {da db : DE} [A : PuE ta da] [B : PuE tb db] : PuE (tDGet ta tb) (dDIx da db) := ⟨fun S M σ δ H P Q w e h k =>
  A.run S M σ δ H _ _ w e h fun x S1 M1 v1 H1 p1 t1 w1 h1 => B.run S1 M1 σ δ H1 _ _ w1 (e.step w t1) p1 fun y S2 M2 v2 H2 p2 t2 w2 h2 => by
    obtain ⟨p, kvs, k', d, rfl, hm, rfl, hv, p2⟩ := p2
    have ev := dt_kD h2
    subst ev
    cases h1
    obtain ⟨_, ws, ha, hk, hs⟩ := w2.mem p _ hm
    rcases val_held hk hs k' with ⟨e1, e2⟩ | ⟨d', v, e1, e2, e3⟩
    · rw [hv] at e1; cases e1
    · rw [hv] at e1; cases e1
      exact ⟨p, v, rfl, e2 ▸ DGet.k ha, k _ _ _ _ _ p2 (t1.trans t2) w2 e3⟩⟩
/-- k in d -/
def dDIn (a b : DE) : DE := fun δ M P => a δ M fun y M1 => b δ M1 fun x M2 => ∃ p kvs k, x = .ptr p ∧ M2 p = some (.dic kvs) ∧ y = kD k ∧ P (.bl (valD kvs k).isSome) M2
instance pu_din {ta tb : TE} {da db : DE} [A : PuE ta da] [B : PuE tb db] : PuE (tDIn ta tb) (dDIn da db) := ⟨fun S M σ δ H P Q w e h k =>
  A.run S M σ δ H _ _ w e h fun y S1 M1 v1 H1 p1 t1 w1 h1 => B.run S1 M1 σ δ H1 _ _ w1 (e.step w t1) p1 fun x S2 M2 v2 H2 p2 t2 w2 h2 => by
    obtain ⟨p, kvs, k', rfl, hm, rfl, p2⟩ := p2
    have ev := dt_kD h1
    subst ev
    cases h2
    obtain ⟨_, ws, ha, hk, hs⟩ := w2.mem p _ hm
    refine ⟨p, valV ws k', rfl, DGet.k ha, ?_⟩
    rcases val_held hk hs k' with ⟨e1, e2⟩ | ⟨d', v, e1, e2, e3⟩
    · rw [e2]
      rw [e1] at p2
      exact k _ _ _ _ _ p2 (t1.trans t2) w2 (.bl _)
    · rw [e2]
      rw [e1] at p2
      exact k _ _ _ _ _ p2 (t1.trans t2) w2 (.bl _)⟩
/-- len(d) -/
def rLenDK : List V → Hp → VK → Prop := fun xs H Q => ∃ (a : Addr) (kvs : List (Key × V)), xs = [.ref a] ∧ H a = some (.dK kvs) ∧ Q (.int (kvs.length : Nat)) H
def rLenD1 : DC := fun ds M P => ∃ p kvs, ds = [.ptr p] ∧ M p = some (.dic kvs) ∧ P (.int (kvs.length : Nat)) M
instance cb_lenD : CbD rLenDK rLenD1 := ⟨fun S M H vs ds P Q w hv h k => by
  obtain ⟨p, kvs, rfl, hm, p1⟩ := h
  match vs, hv with
  | [v], .cons h1 .nil =>
    cases h1
    obtain ⟨_, ws, ha, hk, hs⟩ := w.mem p _ hm
    exact ⟨p, ws, rfl, ha, by rw [len_held hk]; exact k _ _ _ _ _ p1 .refl w (.int _)⟩⟩
section
variable {δ : Dl} {M : Mem} {P : QD} {a b c : DE}
theorem x_dsetd (h : a δ M fun x M1 => ∃ p, x = .ptr p ∧ (∃ kvs, M1 p = some (.dic kvs)) ∧ b δ M1 fun y M2 => c δ M2 fun z M3 => ∃ kvs k, M3 p = some (.dic kvs) ∧ y = kD k ∧ kvs.length < sizeLine ∧
  (∀ d, valD kvs k = some d → P d M3) ∧ (valD kvs k = none → P z (mset M3 p (.dic (putDk kvs k z))))) : dDSetd a b c δ M P := h
theorem x_dnew (h : ∀ a, M a = none → P (.ptr a) (mset M a (.dic []))) : dDNew δ M P := h
end
instance ip_IC1 {C : Int → Int → Prop} {f : Int → Int → V} {g : Int → Int → D} [F : VD f g] : IpD (rI C f) (rIC1 C g) := ⟨fun S M H x y dx dy P Q w hx hy h k => by
  obtain ⟨i, j, rfl, rfl, c, p⟩ := h
  cases hx; cases hy
  exact ⟨i, j, rfl, rfl, c, k _ S M _ H p .refl w (F.run S H i j)⟩⟩
section
variable {S S' : Addr → Prop} {M M' M0 : Mem} {H H' : Hp}
theorem Step.less (t : Step S M H S' M' H') (l : Mle M0 M') : Step S M H S' M0 H' := ⟨fun b o h e => by
  obtain ⟨e1, h1, s1⟩ := t.keep b o h e
  refine ⟨e1, ?_, s1⟩
  cases z : M0 b with
  | none => rfl
  | some mo => rw [l b mo z] at h1; cases h1⟩
variable {P : Program} {w : World} {K : PySem.W.Frag} {mg : Str → Option Value} {base : Heap} {x qual : Str} {st : Stmt} {f : Addr} {fd : FuncData} {N ps : List Str} {k : Nat} {sp : DC}
/-- a def that leaves things of its own making behind -/
theorem fnDW (F : L2.Fun K x qual st f fd) (S : FnScope N ps (L2.defScope st)) (len : ∀ ds M P, sp ds M P → ds.length = ps.length)
    (hb : ∀ (cdv : Value) (A : Around) (outer : List Env) (s : Shared) (H : Hp) (E : XK), Room k (A.deeper (envOfC qual (L2.defScope st) s.heap.objs.size f cdv)) →
      ∃ t, PSs (cxOf L2.CX0 P w K mg base N qual (L2.defScope st) f cdv A outer s H E).nox (L2.defBody st) t ∧ ∃ dt, PuS t dt ∧ ∀ ds M R, sp ds M R → dt (fun _ M' => ∃ M0, Mle M0 M' ∧ R .non M0) (fun d M' => ∃ M0, Mle M0 M' ∧ R d M0) (fun _ _ => False) (fun _ _ => False) (startD N ds) M) :
    FnOk P w K mg base L2.CX0 (k + 1) f fd ps (lift sp) :=
  F.ok S (liftLen len) fun cdv A outer s H vs Q E hr h => by
    obtain ⟨t, ht, dt, A, go⟩ := hb cdv A outer s H E hr
    refine ⟨t, ht, ?_⟩
    obtain ⟨S, M, ds, R, w, h, p, k⟩ := h
    refine A.run S M _ _ H _ _ _ _ _ w (en_start N h) (go ds M R p) ⟨fun δ' S' M' σ' H' q t w e => ?_, ?_, fun _ _ _ _ _ q => q.elim, fun _ _ _ _ _ q => q.elim⟩
    · obtain ⟨M0, l, q⟩ := q
      exact k _ S' M0 _ H' q (t.less l) (w.drop l) .non
    · rintro d S' M' v H' ⟨M0, l, q⟩ t w' hv
      exact k d S' M0 v H' q (t.less l) (w'.drop l) hv
theorem mle_refl : Mle M M := fun _ _ h => h
theorem mle_set {a : Addr} {o : MO} (h : M a = none) : Mle M (mset M a o) := fun b mo e => by
  rw [mset_ne (fun z => by rw [z, h] at e; cases e)]
  exact e
end
end V
namespace V
open PySem PySem.Spec PyProof.Rows L2 U StX
theorem cd_get {x : Str} {i c : Nat} (h : x.cps[i]? = some c) : (cd x)[i]? = some c := by
  show x.cps.toList[i]? = some c
  rw [Array.getElem?_toList]; exact h
def ItzLS (K : PySem.W.Frag) (a : Addr) (x : Str) : It :=
  ⟨fun i H => ∃ (xs : List V) (v : V), SqL K H a xs ∧ xs[i]? = some v ∧ i < (cd x).length,
    fun i H v H' => ∃ T y c, v = .ref T ∧ H T = none ∧ H' = upd H T (.tup [y, .str (one c)]) ∧ (∀ xs, SqL K H a xs → xs[i]? = some y) ∧ (cd x)[i]? = some c,
    fun i H => ∃ xs : List V, SqL K H a xs ∧ i ≤ xs.length ∧ i ≤ (cd x).length ∧ (i = xs.length ∨ i = (cd x).length)⟩
theorem turn_zipLS {P : Program} {w : World} {K : PySem.W.Frag} {elts : List Expr} {kk : Nat} {tpos : Pos} {a z TI TO i1 i2 : Addr} {x : Str} {t : Tok} (D : ZipSep2 z TI TO i1 i2 [i1, a] [i2]) :
    Turn P w K (.Tuple elts kk tpos) (ItzLS K a x) [z, TI, TO, i1, i2] z (fun i h => IsZip h z TI TO .none ∧ IsTupOf2 h TI (.ref i1) (.ref i2) ∧ (∃ x y, IsTupOf2 h TO x y) ∧ h.IsListIter i1 a i ∧ h.IsStrIter i2 (strIterType x) x t i) where
  mem := by simp
  obj := fun i h st c hc => by
    obtain ⟨hz, hTI, ⟨x, y, hTO⟩, ⟨o1, e1, _, d1⟩, ⟨o2, e2, _, d2⟩⟩ := st
    have e' : c = z ∨ c = TI ∨ c = TO ∨ c = i1 ∨ c = i2 := by simpa using hc
    rcases e' with q | q | q | q | q
    · rw [q]; exact ⟨_, hz, fun v q => nomatch q⟩
    · rw [q]; exact ⟨_, hTI, fun v q => nomatch q⟩
    · rw [q]; exact ⟨_, hTO, fun v q => nomatch q⟩
    · rw [q]; exact ⟨o1, e1, fun v q => by rw [d1] at q; cases q⟩
    · rw [q]; exact ⟨o2, e2, fun v q => by rw [d2] at q; cases q⟩
  keep := fun i h h' st k => by
    obtain ⟨hz, hTI, ⟨x, y, hTO⟩, h1, ⟨o2, e2, r2⟩⟩ := st
    exact ⟨k z (by simp) _ hz, k TI (by simp) _ hTI, ⟨x, y, k TO (by simp) _ hTO⟩, h1.at fun o q => k i1 (by simp) o q, ⟨o2, k i2 (by simp) o2 e2, r2⟩⟩
  item := by
    intro X hP hw hK hc i pins s σ H E I hf st hg
    subst hP hw hK
    obtain ⟨hz, hTI, ⟨x0, y0, hTO⟩, h1, h2⟩ := st
    obtain ⟨xs, v, hqx, hv, hlt⟩ := hg
    obtain ⟨its, rv, p, _⟩ := I.list hqx
    obtain ⟨u, hu, ru⟩ := rv.get hv
    have hzl : z < s.heap.objs.size := Heap.lt_size hz
    have hh : X.A.in1.handled = none := I.ok.hd hc
    have hne : a ≠ i1 := fun e => by
      obtain ⟨o1, g1, c1, _⟩ := h1
      obtain ⟨o2, g2, c2, _⟩ := p.isList
      rw [← e, g2] at g1
      cases g1
      rw [c2] at c1
      simp at c1
    have n1 : i < its.toArray.size := by
      have := (List.getElem?_eq_some_iff.mp hu).1
      simpa using this
    have n2 : i < x.cps.size := by simpa [cd] using hlt
    refine wpAny_pyNext_zipD2_item D (Draws.list hh i1 a hne its.toArray) (Draws.text hh i2 x t) hz hTI hTO ⟨h1, p.isList⟩ h2 n1 n2 fun x1 x2 h' tk y1 y2 z' TO' st1 st2 hT hsz hk => ?_
    obtain ⟨c, ut, hc2, rfl⟩ := y2
    have ex : x1 = u := by
      have : its[i]? = some x1 := by simpa using y1
      rw [hu] at this
      cases this
      rfl
    subst ex
    refine ⟨_, rfl, wpAny_letOwnedTupleGo_zip (s := { s with heap := h', toks := tk }) z' fun h'' z'' sb => ?_⟩
    have hT2 : h''.get? s.heap.objs.size = some { cls := .type "tuple", data := .seq #[x1, .str ⟨#[c]⟩ ut] } := (sb.2 _ (Nat.ne_of_gt hzl)).trans hT
    have new : ObjOk X.prog X.w (upd H s.heap.objs.size (.tup [v, .str (one c)])) h'' s.heap.objs.size (.tup [v, .str (one c)]) :=
      ⟨by show 2 ≤ sizeLine; decide, [x1, .str ⟨#[c]⟩ ut], .cons ru (.cons ⟨ut, rfl⟩ .nil), ⟨_, hT2, rfl, _, rfl⟩⟩
    have I1 : Inv X pins σ (upd H s.heap.objs.size (.tup [v, .str (one c)])) { s with heap := h'', toks := tk } :=
      I.turnedNew (t' := tk) (ch := [z, TI, TO, i1, i2]) (fun c o hb q => (sb.2 c (fun q' => hb (by simp [q']))).trans (hk c o (fun q' => hb (by simp [q'])) (fun q' => hb (by simp [q'])) (fun q' => hb (by simp [q'])) (fun q' => hb (by simp [q'])) q)) hf (Nat.le_refl _) new
    refine ⟨.ref s.heap.objs.size, _, I1, rfl, ⟨_, v, c, rfl, I.hok.fresh (Nat.le_refl _), rfl, fun l hl => by rw [I.list_inj hl hqx]; exact hv, cd_get hc2⟩, ⟨z'', ?_, ⟨x1, .str ⟨#[c]⟩ ut, ?_⟩, ?_, ?_⟩, fun c hcm => ?_⟩
    · exact (sb.2 _ D.TIz).trans (hk _ _ D.TIz D.TITO D.TIi1 D.TIi2 hTI)
    · exact (sb.2 _ D.TOz).trans TO'
    · exact st1.1.at fun o q => (sb.2 _ (Ne.symm D.zi1)).trans q
    · obtain ⟨o2, e2, r2⟩ := st2
      exact ⟨o2, (sb.2 _ (Ne.symm D.zi2)).trans e2, r2⟩
    · have hlt : c < s.heap.objs.size := by
        have e' : c = z ∨ c = TI ∨ c = TO ∨ c = i1 ∨ c = i2 := by simpa using hcm
        rcases e' with q | q | q | q | q
        · rw [q]; exact hzl
        · rw [q]; exact Heap.lt_size hTI
        · rw [q]; exact Heap.lt_size hTO
        · rw [q]; obtain ⟨_, e1, _⟩ := h1; exact Heap.lt_size e1
        · rw [q]; obtain ⟨_, e2, _⟩ := h2; exact Heap.lt_size e2
      rw [upd_ne (Nat.ne_of_lt hlt)]
      exact (hf c hcm).1
  done := by
    intro X hP hw hK hc i pins s σ H E I hf st hg
    subst hP hw hK
    obtain ⟨hz, hTI, ⟨x0, y0, hTO⟩, h1, h2⟩ := st
    obtain ⟨xs, hqx, l1, l2, l3⟩ := hg
    obtain ⟨its, rv, p, _⟩ := I.list hqx
    have hh : X.A.in1.handled = none := I.ok.hd hc
    have hne : a ≠ i1 := fun e => by
      obtain ⟨o1, g1, c1, _⟩ := h1
      obtain ⟨o2, g2, c2, _⟩ := p.isList
      rw [← e, g2] at g1
      cases g1
      rw [c2] at c1
      simp at c1
    have m1 : its.toArray.size = xs.length := by simp [rv.length]
    have m2 : x.cps.size = (cd x).length := by simp [cd]
    exact wpAny_pyNext_zipD2_end D (Draws.list hh i1 a hne its.toArray) (Draws.text hh i2 x t) hz hTI hTO ⟨h1, p.isList⟩ h2 (by omega) (by omega) (by omega) fun h' tk hk => ⟨rfl, I.turnedL (t' := tk) (ch := [z, TI, TO, i1, i2]) (fun c o hb q =>
      hk c o (fun q' => hb (by simp [q'])) (fun q' => hb (by simp [q'])) (fun q' => hb (by simp [q'])) (fun q' => hb (by simp [q'])) q) hf⟩
  self := fun A i s Q E st h => wpAny_pyIter_zip st.1 h
def iZipLS (K : PySem.W.Frag) (ta : TA) : TI := fun σ H R => ta σ H fun vs H1 => ∃ a x xs, vs = [.ref a, .str x] ∧ SqL K H1 a xs ∧ R (ItzLS K a x) H1
theorem pi_zipLS {X : Cx} {K : PySem.W.Frag} (hK : X.K = K) {e e2 : Expr} {ta : TA} {p pos tpos : Pos} {elts : List Expr} {kk : Nat} (hg : Gl X "zip") (hm : X.mg "zip" = none) (ha : PA X [e, e2] ta)
    (hs : starEach [e, e2] X.env = (false, eval e X.env) :: starEach [e2] X.env := by rfl) (hpl : (backTo pos (starEach [e2] X.env)).any (·.1) = false := by rfl) :
    PI X (.Tuple elts kk tpos) (.Call (.Name "zip" p) [e, e2] [] pos) (iZipLS K ta) := by
  subst hK
  refine ⟨fun pins s σ H R I h => ?_⟩
  refine Call_ (ld_blt I hg hm PyProof.Rows.boot_zip (PyProof.Rows.callWith_type1 (thn (ha.run pos pins s σ H _ I h) fun us s1 ⟨vs, H1, I1, r1, q1⟩ => ?_) hs hpl))
  obtain ⟨a, x, xs, ex, hqx, q⟩ := q1
  subst ex
  cases r1 with
  | cons r rr =>
    cases rr with
    | cons r' rr =>
      cases rr
      cases r
      obtain ⟨t, rfl⟩ := r'
      have fresh5 : ∀ c, c ∈ [s1.heap.objs.size + 4, s1.heap.objs.size + 2, s1.heap.objs.size + 3, s1.heap.objs.size, s1.heap.objs.size + 1] → FpOk X pins H1 c := fun c hcm => by
        have e' : c = s1.heap.objs.size + 4 ∨ c = s1.heap.objs.size + 2 ∨ c = s1.heap.objs.size + 3 ∨ c = s1.heap.objs.size ∨ c = s1.heap.objs.size + 1 := by simpa using hcm
        have hle : s1.heap.objs.size ≤ c := by
          rcases e' with z | z | z | z | z
          · rw [z]; exact Nat.le_add_right _ _
          · rw [z]; exact Nat.le_add_right _ _
          · rw [z]; exact Nat.le_add_right _ _
          · rw [z]; exact Nat.le_refl _
          · rw [z]; exact Nat.le_add_right _ _
        exact I1.fpOk hle (I1.hok.fresh hle)
      obtain ⟨its, rv, p1, _⟩ := I1.list hqx
      have hl : a < s1.heap.objs.size := p1.lt
      refine zip_begins2 (begins_list a its.toArray) (begins_text x t) p1.isList trivial fun h' hz hTI hTO g1 g2 hsz hk => wpAny_pyIter_zip hz ?_
      have I2 : Inv X pins σ H1 { s1 with heap := h' } := I1.kept (t' := s1.toks) hk
      have S : ZipSep2 (s1.heap.objs.size + 4) (s1.heap.objs.size + 2) (s1.heap.objs.size + 3) s1.heap.objs.size (s1.heap.objs.size + 1) [s1.heap.objs.size, a] [s1.heap.objs.size + 1] := by
        have A : ∀ k, s1.heap.objs.size + k ≠ a := fun k e => by
          rw [← e] at hl
          exact Nat.not_lt.mpr (Nat.le_add_right _ _) hl
        have B : ∀ k j : Nat, k ≠ j → s1.heap.objs.size + k ≠ s1.heap.objs.size + j := fun k j h e => h (Nat.add_left_cancel e)
        have m2 : ∀ k, k ≠ 0 → s1.heap.objs.size + k ∉ [s1.heap.objs.size, a] := fun k h0 h => by
          rcases List.mem_cons.mp h with e | h
          · exact B k 0 h0 e
          · exact A k (List.mem_singleton.mp h)
        have m1 : ∀ k, k ≠ 1 → s1.heap.objs.size + k ∉ [s1.heap.objs.size + 1] := fun k h0 h => B k 1 h0 (List.mem_singleton.mp h)
        exact ⟨B 2 4 (by decide), B 3 4 (by decide), B 2 3 (by decide), B 2 0 (by decide), by simp, m2 4 (by decide), m2 3 (by decide), B 2 1 (by decide), by simp, m1 4 (by decide), m1 3 (by decide), m1 0 (by decide), m2 1 (by decide)⟩
      exact ⟨s1.heap.objs.size + 4, [s1.heap.objs.size + 4, s1.heap.objs.size + 2, s1.heap.objs.size + 3, s1.heap.objs.size, s1.heap.objs.size + 1], _, _, H1, rfl, I2, turn_zipLS (t := t) S, ⟨hz, hTI, ⟨_, _, hTO⟩, ⟨_, g1, rfl, rfl⟩, ⟨_, g2, rfl, rfl⟩⟩, fresh5, q⟩
/-- over data -/
def diZS (a : DA) : DI := fun δ M P => a δ M fun vs M1 => ∃ xs z, vs = [.lst xs, .str z] ∧ P (fun _ => True) (zipD xs ((cd z).map sgn)) M1
instance pu_iZS {K : PySem.W.Frag} {tt : TA} {dd : DA} [A : PuA tt dd] : PuI (iZipLS K tt) (diZS dd) := ⟨fun S M σ δ H P R w e h k =>
  A.run S M σ δ H _ _ w e h fun d S1 M1 v H1 p1 t1 w1 h1 => by
    obtain ⟨xs, z, rfl, p1⟩ := p1
    match v, h1 with
    | [.ref a, .str _], .cons h2 (.cons (.str _) .nil) =>
      have sa := stay_lst w1 h2
      obtain ⟨vs, ha, hs⟩ := sa _ _ _ .refl w1 trivial
      have ll : ((cd z).map sgn).length = (cd z).length := List.length_map _
      refine ⟨a, z, vs, rfl, SqL.of ha, k _ _ S1 M1 H1 _ p1 t1 w1 ⟨fun S' M' H' t w' _ => ?_, fun i S' M' H' hi t w' _ => ?_, fun i S' M' H' x H2 hi t w' _ y => ?_⟩⟩
      · obtain ⟨vs, h4, h5⟩ := sa _ _ _ t w' trivial
        refine ⟨vs, SqL.of h4, ?_⟩
        rw [zipD_len, h5.length, ll]
        omega
      · obtain ⟨vs, h4, h5⟩ := sa _ _ _ t w' trivial
        rw [zipD_len, ll] at hi
        have l1 := h5.length
        exact ⟨vs, vs[i], SqL.of h4, at_some (by omega), by omega⟩
      · obtain ⟨vs, h4, h5⟩ := sa _ _ _ t w' trivial
        obtain ⟨T, y0, c, rfl, nT, rfl, q1, q2⟩ := y
        obtain ⟨d, e1, e2⟩ := h5.getV (q1 vs (SqL.of h4))
        have e3 : ((cd z).map sgn)[i]? = some (.str (one c)) := by
          rw [List.getElem?_map, q2]
          rfl
        exact ⟨Same.new nT, _, zipD_get e1 e3, .tup (w'.ns nT) upd_same (.cons (e2.sm (Same.new nT)) (.cons (.str _) .nil))⟩⟩
theorem x_iZS {δ : Dl} {M : Mem} {t : DA} {PI : (Mem → Prop) → List D → Mem → Prop} (h : t δ M fun vs M1 => ∃ xs z, vs = [.lst xs, .str z] ∧ PI (fun _ => True) (zipD xs ((cd z).map sgn)) M1) : diZS t δ M PI := h
end V
namespace V
open PySem PySem.Spec PyProof.Rows L2 U StX
def ItzSS (y x : Str) : It :=
  ⟨fun i H => i < (cd y).length ∧ i < (cd x).length,
    fun i H v H' => ∃ T e c, v = .ref T ∧ H T = none ∧ H' = upd H T (.tup [.str (one e), .str (one c)]) ∧ (cd y)[i]? = some e ∧ (cd x)[i]? = some c,
    fun i H => i ≤ (cd y).length ∧ i ≤ (cd x).length ∧ (i = (cd y).length ∨ i = (cd x).length)⟩
def iZipSS (K : PySem.W.Frag) (ta : TA) : TI := fun σ H R => ta σ H fun vs H1 => ∃ y x, vs = [.str y, .str x] ∧ R (ItzSS y x) H1
def diZSS (a : DA) : DI := fun δ M P => a δ M fun vs M1 => ∃ y z, vs = [.str y, .str z] ∧ P (fun _ => True) (zipD ((cd y).map sgn) ((cd z).map sgn)) M1
instance pu_iZSS {K : PySem.W.Frag} {tt : TA} {dd : DA} [A : PuA tt dd] : PuI (iZipSS K tt) (diZSS dd) := ⟨fun S M σ δ H P R w e h k =>
  A.run S M σ δ H _ _ w e h fun d S1 M1 v H1 p1 t1 w1 h1 => by
    obtain ⟨y, z, rfl, p1⟩ := p1
    match v, h1 with
    | [.str _, .str _], .cons (.str _) (.cons (.str _) .nil) =>
      have l1 : ((cd y).map sgn).length = (cd y).length := List.length_map _
      have l2 : ((cd z).map sgn).length = (cd z).length := List.length_map _
      refine ⟨y, z, rfl, k _ _ S1 M1 H1 _ p1 t1 w1 ⟨fun S' M' H' t w' _ => ?_, fun i S' M' H' hi t w' _ => ?_, fun i S' M' H' x H2 hi t w' _ q => ?_⟩⟩
      · rw [zipD_len, l1, l2]
        show _ ≤ _ ∧ _ ≤ _ ∧ _
        omega
      · rw [zipD_len, l1, l2] at hi
        show _ < _ ∧ _ < _
        omega
      · obtain ⟨T, e, c, rfl, nT, rfl, q1, q2⟩ := q
        have e1 : ((cd y).map sgn)[i]? = some (.str (one e)) := by
          rw [List.getElem?_map, q1]
          rfl
        have e3 : ((cd z).map sgn)[i]? = some (.str (one c)) := by
          rw [List.getElem?_map, q2]
          rfl
        exact ⟨Same.new nT, _, zipD_get e1 e3, .tup (w'.ns nT) upd_same (.cons (.str _) (.cons (.str _) .nil))⟩⟩
theorem dtA_upd {S : Addr → Prop} {H : Hp} {v : V} {d : D} (h : Dt S H v d) : ∀ {vs : List V} {ds : List D} (j : Nat), DtA S H vs ds → DtA S H (vs.set j v) (ds.set j d)
  | _, _, _, .nil => .nil
  | _, _, 0, .cons _ h2 => .cons h h2
  | _, _, j + 1, .cons h1 h2 => .cons h1 (dtA_upd h j h2)
/-- xs[i] = v -/
def dgSub (a b : DE) : DG := fun d δ M P => a δ M fun x M1 => b δ M1 fun y M2 => ∃ p xs k j, x = .ptr p ∧ y = .int k ∧ M2 p = some (.lst xs) ∧ ixN xs.length k = some j ∧ P δ (mset M2 p (.lst (xs.set j d)))
instance pu_gSub {ta tb : TE} {da db : DE} [A : PuE ta da] [B : PuE tb db] : PuG (gSub ta tb rSetL) (dgSub da db) [] := ⟨fun S M σ δ H v d P R w e h p k =>
  A.run S M σ δ H _ _ w e p fun x S1 M1 v1 H1 p1 t1 w1 h1 => B.run S1 M1 σ δ H1 _ _ w1 (e.step w t1) p1 fun y S2 M2 v2 H2 p2 t2 w2 h2 => by
    obtain ⟨q, xs, n, j, rfl, rfl, hm, hj, p2⟩ := p2
    cases h2
    have h1 := dt_step w1 t2 _ h1
    cases h1
    obtain ⟨sq, vs, ha, hs⟩ := w2.mem q _ hm
    have hv := dt_step w (t1.trans t2) _ h
    have ex : Ext S2 H2 (upd H2 q (.lst (vs.set j v))) := Ext.mut (Ext.refl _) sq
    have t4 : Step S M H S2 (mset M2 q (.lst (xs.set j d))) (upd H2 q (.lst (vs.set j v))) := (t1.trans t2).trans (.change hm)
    exact ⟨q, vs, n, j, rfl, rfl, ha, by rw [hs.length]; exact hj, k δ S2 _ σ _ p2 t4 (w2.change hm ⟨_, upd_same, (dtA_upd hv j hs).go ex⟩) (e.step w t4) fun _ _ => rfl⟩⟩
def rGtD (K : PySem.W.Frag) : R2 := fun x y H Q => ∃ d e, Dp K H x d ∧ Dp K H y e ∧ PySem.W.alike d e = true ∧ d ≠ .none ∧ min d.depth e.depth < 64 ∧ Q (.bl (PySem.W.dataLt e d)) H
def rGtP1 : DR := fun x y M P => ∃ (n m : Int) (z u : Str), x = .tup [.int n, .str z] ∧ y = .tup [.int m, .str u] ∧ P (.bl (if m = n then decide (cd u < cd z) else decide (m < n))) M
instance op_gtP1 {K : PySem.W.Frag} : OpD (rGtD K) rGtP1 := ⟨fun S M H x y dx dy P Q w hx hy h k => by
  obtain ⟨n, m, z, u, rfl, rfl, p⟩ := h
  have e1 : D.py (.tup [.int n, .str z]) = some (.tuple [.int n, .str z]) := by simp [D.py, D.pys]
  have e2 : D.py (.tup [.int m, .str u]) = some (.tuple [.int m, .str u]) := by simp [D.py, D.pys]
  refine ⟨_, _, Dt.dp _ hx e1, Dt.dp _ hy e2, by simp [PySem.W.alike, PySem.W.alikeAll], by simp, by simp [PyData.depth, PyData.depthAll], ?_⟩
  rw [lt_np]
  exact k _ S M _ H p .refl w (.bl _)⟩
end V
namespace V
open PySem PySem.Spec PyProof.Rows L2 U StX
def okView (v : List Sh × Str) : Prop := (∀ s ∈ v.1, s.ok) ∧ 1 ≤ v.1.length ∧ v.1.length ≤ 4 ∧ okText 200 v.2 = true
def kstep (k : List (Nat × Nat)) : D × Nat → Option (List (Nat × Nat))
  | (.int i, c) => match k.lookup i.toNat with
    | some c' => if c' = c then some k else none
    | none => some (k ++ [(i.toNat, c)])
  | (.str s, c) => if s = one c then some k else none
  | _ => none
def kview (n : Nat) (k : List (Nat × Nat)) (v : List Sh × Str) : Option (List (Nat × Nat)) :=
  if (planR v.1 n).length = (cd v.2).length then ((planR v.1 n).zip (cd v.2)).foldlM kstep k else none
def knownF (vs : List (List Sh × Str)) (n : Nat) : Option (List (Nat × Nat)) := vs.foldlM (kview n) []
def kdic (k : List (Nat × Nat)) : List (Key × D) := k.map fun p => (Sum.inl (p.1 : Int), sgn p.2)
theorem kdic_val (i : Nat) : ∀ k : List (Nat × Nat), valD (kdic k) (Sum.inl (i : Int)) = (k.lookup i).map sgn
  | [] => rfl
  | (j, c) :: k => by
    show valD ((Sum.inl (j : Int), sgn c) :: kdic k) _ = _
    by_cases h : j = i
    · subst h
      rw [valD_pos rfl, List.lookup_cons_self]
      rfl
    · rw [valD_neg (fun e => h (by have := Sum.inl.inj e; omega)), kdic_val i k, List.lookup_cons]
      have : (i == j) = false := by simpa using Ne.symm h
      rw [this]
theorem kdic_put {i c : Nat} {k : List (Nat × Nat)} (h : k.lookup i = none) : putDk (kdic k) (Sum.inl (i : Int)) (sgn c) = kdic (k ++ [(i, c)]) := by
  have e : ((kdic k).any fun kv => decide (kv.1 = Sum.inl (i : Int))) = false := by
    rw [Bool.eq_false_iff]
    intro z
    obtain ⟨p, hp, e⟩ := List.any_eq_true.mp z
    obtain ⟨⟨j, d⟩, hj, rfl⟩ := List.mem_map.mp hp
    have e : j = i := by have := Sum.inl.inj (of_decide_eq_true e); omega
    subst e
    rw [List.lookup_eq_none_iff] at h
    have := h _ hj
    simp at this
  unfold putDk
  rw [e, if_neg Bool.false_ne_true]
  unfold kdic
  rw [List.map_append]
  rfl
theorem fold_take {α β : Type} {f : β → α → Option β} {b : β} {l : List α} {i : Nat} {x : α} (h : l[i]? = some x) : (l.take (i + 1)).foldlM f b = ((l.take i).foldlM f b).bind fun k => f k x := by
  rw [List.take_succ, h, List.foldlM_append]
  show (List.foldlM f b (l.take i)).bind _ = _
  congr 1
  funext k
  simp
theorem kstep_pl {k : List (Nat × Nat)} {p c : Nat} : kstep k (pl p, c) = match k.lookup p with
    | some c' => if c' = c then some k else none
    | none => some (k ++ [(p, c)]) := by
  simp only [kstep, pl, Int.toNat_natCast]
theorem kstep_some {k : List (Nat × Nat)} {p c c' : Nat} (h : k.lookup p = some c') : kstep k (pl p, c) = if c' = c then some k else none := by
  rw [kstep_pl, h]
theorem kstep_none {k : List (Nat × Nat)} {p c : Nat} (h : k.lookup p = none) : kstep k (pl p, c) = some (k ++ [(p, c)]) := by
  rw [kstep_pl, h]
theorem kstep_len {k k' : List (Nat × Nat)} {p : D × Nat} (h : kstep k p = some k') : k'.length ≤ k.length + 1 := by
  unfold kstep at h
  split at h
  · split at h
    · split at h
      · cases h; omega
      · cases h
    · cases h; rw [List.length_append]; show _ + 1 ≤ _; omega
  · split at h
    · cases h; omega
    · cases h
  · cases h
theorem fold_len : ∀ {l : List (D × Nat)} {k k' : List (Nat × Nat)}, l.foldlM kstep k = some k' → k'.length ≤ k.length + l.length
  | [], k, k', h => by cases h; exact Nat.le_refl _
  | p :: l, k, k', h => by
    rw [List.foldlM_cons] at h
    cases e : kstep k p with
    | none => rw [e] at h; cases h
    | some k2 =>
      rw [e] at h
      have := fold_len (l := l) h
      have := kstep_len e
      rw [List.length_cons]
      omega
theorem kview_len {n : Nat} {v : List Sh × Str} {k k' : List (Nat × Nat)} (ho : okView v) (h : kview n k v = some k') : k'.length ≤ k.length + 200 := by
  unfold kview at h
  split at h
  · have := fold_len h
    have h2 := (okText_iff.mp ho.2.2.2).1
    rw [List.length_zip, cd_len] at this
    omega
  · cases h
theorem known_len {n : Nat} : ∀ {vs : List (List Sh × Str)} {k k' : List (Nat × Nat)}, (∀ v ∈ vs, okView v) → vs.foldlM (kview n) k = some k' → k'.length ≤ k.length + 200 * vs.length
  | [], k, k', _, h => by cases h; exact Nat.le_refl _
  | v :: vs, k, k', hv, h => by
    rw [List.foldlM_cons] at h
    cases e : kview n k v with
    | none => rw [e] at h; cases h
    | some k2 =>
      rw [e] at h
      have := known_len (vs := vs) (fun x hx => hv x (List.mem_cons_of_mem _ hx)) h
      have := kview_len (hv v (List.mem_cons_self ..)) e
      rw [List.length_cons]
      omega
theorem zip_at {xs : List D} {z : List Nat} {j : Nat} {x : D} (h : (zipD xs (z.map sgn))[j]? = some x) : ∃ d c, x = .tup [d, sgn c] ∧ (xs.zip z)[j]? = some (d, c) ∧ d ∈ xs := by
  unfold zipD at h
  rw [List.getElem?_map] at h
  obtain ⟨⟨d, e⟩, h1, rfl⟩ := Option.map_eq_some_iff.mp h
  obtain ⟨h2, h3⟩ := List.getElem?_zip_eq_some.mp h1
  rw [List.getElem?_map] at h3
  obtain ⟨c, h4, rfl⟩ := Option.map_eq_some_iff.mp h3
  exact ⟨d, c, rfl, List.getElem?_zip_eq_some.mpr ⟨h2, h4⟩, List.mem_of_getElem? h2⟩
theorem fold_none {α β : Type} {f : β → α → Option β} {b : β} {l : List α} (i : Nat) (h : (l.take i).foldlM f b = none) : l.foldlM f b = none := by
  have e := List.foldlM_append (l := l.take i) (l' := l.drop i) (f := f) (b := b)
  rw [List.take_append_drop] at e
  rw [e, h]
  rfl
end V
namespace V
open PySem PySem.Spec PyProof.Rows L2 U StX
end V
namespace V
open PySem PySem.Spec PyProof.Rows L2 U StX
end V
namespace V
open PySem PySem.Spec PyProof.Rows L2 U StX
structure PyBg (W k : Nat) (p : PyData) : Prop where
  lay : p.canLay0 = true
  itx : PyData.intsShort 1000 p = true
  sh : PyData.showable p = true
  nd : PyData.hasDict p = false
  dep : PyData.depth p ≤ k
  wt : PyData.weight p ≤ W
structure PysBg (W k : Nat) (ps : List PyData) : Prop where
  lay : PyData.canLayAll0 ps = true
  itx : PyData.intsShortAll 1000 ps = true
  sh : PyData.showableAll ps = true
  nd : PyData.hasDictAll ps = false
  dep : PyData.depthAll ps ≤ k
  wt : PyData.weightAll ps ≤ W
theorem PysBg.nil (W k : Nat) : PysBg W k [] := ⟨rfl, rfl, rfl, rfl, Nat.zero_le _, Nat.zero_le _⟩
theorem PysBg.cons {W W' k : Nat} {p : PyData} {ps : List PyData} (a : PyBg W k p) (b : PysBg W' k ps) : PysBg (W + 1 + W') k (p :: ps) := by
  obtain ⟨a1, a2, a3, a4, a5, a6⟩ := a
  obtain ⟨b1, b2, b3, b4, b5, b6⟩ := b
  refine ⟨?_, ?_, ?_, ?_, ?_, ?_⟩
  · rw [PyData.canLayAll0, a1, b1]; rfl
  · rw [PyData.intsShortAll, a2, b2]; rfl
  · rw [PyData.showableAll, a3, b3]; rfl
  · rw [PyData.hasDictAll, a4, b4]; rfl
  · rw [PyData.depthAll]; omega
  · rw [PyData.weightAll]; omega
theorem PyBg.mono {W W' k k' : Nat} {p : PyData} (a : PyBg W k p) (h : W ≤ W') (h2 : k ≤ k') : PyBg W' k' p := ⟨a.lay, a.itx, a.sh, a.nd, Nat.le_trans a.dep h2, Nat.le_trans a.wt h⟩
theorem PysBg.list {W k : Nat} {ps : List PyData} (a : PysBg W k ps) : PyBg W (k + 1) (.list ps) :=
  ⟨by rw [PyData.canLay0]; exact a.lay, by rw [PyData.intsShort]; exact a.itx, by rw [PyData.showable]; exact a.sh, by rw [PyData.hasDict]; exact a.nd, by rw [PyData.depth]; have := a.dep; omega, by rw [PyData.weight]; exact a.wt⟩
theorem PysBg.tuple {W k : Nat} {ps : List PyData} (a : PysBg W k ps) : PyBg W (k + 1) (.tuple ps) :=
  ⟨by rw [PyData.canLay0]; exact a.lay, by rw [PyData.intsShort]; exact a.itx, by rw [PyData.showable]; exact a.sh, by rw [PyData.hasDict]; exact a.nd, by rw [PyData.depth]; have := a.dep; omega, by rw [PyData.weight]; exact a.wt⟩
theorem PyBg.int {i : Int} {b : Nat} (h : i.natAbs < 2 ^ b) (h0 : 0 < b) (hb : b ≤ 900) : PyBg b 0 (.int i) := by
  have l : i.natAbs.log2 < b := by
    by_cases z : i.natAbs = 0
    · rw [z]; exact h0
    · exact (Nat.log2_lt z).mpr h
  refine ⟨rfl, ?_, ?_, rfl, by rw [PyData.depth]; exact Nat.le_refl _, ?_⟩
  · rw [PyData.intsShort]
    have e := int_text_length_le (k := b) h0 l
    refine decide_eq_true ?_
    show (Str.ofString (toString i)).length ≤ 1000
    rw [PySem.ofString_length]
    omega
  · rw [PyData.showable]
    exact decide_eq_true (by omega)
  · rw [PyData.weight]
    split <;> omega
def bgP (W k : Nat) (d : D) : Prop := ∃ p, D.py d = some p ∧ PyBg W k p
def bgPs (W k : Nat) (ds : List D) : Prop := ∃ ps, D.pys ds = some ps ∧ PysBg W k ps
theorem bgPs.nil (W k : Nat) : bgPs W k [] := ⟨[], by rw [D.pys], .nil _ _⟩
theorem bgPs.cons {W W' k : Nat} {d : D} {ds : List D} : bgP W k d → bgPs W' k ds → bgPs (W + 1 + W') k (d :: ds) := fun ⟨p, e, a⟩ ⟨ps, e2, b⟩ => ⟨p :: ps, by rw [D.pys, e, e2], .cons a b⟩
theorem bgPs.all {W k : Nat} : ∀ {ds : List D}, (∀ d ∈ ds, bgP W k d) → bgPs (ds.length * (W + 1)) k ds
  | [], _ => bgPs.nil _ _
  | d :: ds, h => by
    obtain ⟨ps, e, a⟩ := bgPs.cons (h d List.mem_cons_self) (bgPs.all fun x hx => h x (List.mem_cons_of_mem _ hx))
    have q : (ds.length + 1) * (W + 1) = W + 1 + ds.length * (W + 1) := by rw [Nat.add_mul, Nat.one_mul, Nat.add_comm]
    rw [List.length_cons, q]
    exact ⟨ps, e, a⟩
theorem bgPs.list {W k : Nat} {ds : List D} : bgPs W k ds → bgP W (k + 1) (.lst ds) := fun ⟨ps, e, a⟩ => ⟨.list ps, by rw [D.py, e]; rfl, a.list⟩
theorem bgPs.tuple {W k : Nat} {ds : List D} : bgPs W k ds → bgP W (k + 1) (.tup ds) := fun ⟨ps, e, a⟩ => ⟨.tuple ps, by rw [D.py, e]; rfl, a.tuple⟩
theorem bgP.mono {W W' k k' : Nat} {d : D} : bgP W k d → W ≤ W' → k ≤ k' → bgP W' k' d := fun ⟨p, e, a⟩ h h2 => ⟨p, e, a.mono h h2⟩
theorem bgP.int {i : Int} {b : Nat} (h : i.natAbs < 2 ^ b) (h0 : 0 < b := by decide) (hb : b ≤ 900 := by decide) : bgP b 0 (.int i) := ⟨_, by rw [D.py], .int h h0 hb⟩
theorem bgP.bl (b : Bool) : bgP 0 0 (.bl b) := ⟨_, by rw [D.py], ⟨rfl, rfl, rfl, rfl, by rw [PyData.depth]; exact Nat.le_refl _, by rw [PyData.weight]; exact Nat.le_refl _⟩⟩
theorem bgP.non : bgP 0 0 .non := ⟨_, by rw [D.py], ⟨rfl, rfl, rfl, rfl, by rw [PyData.depth]; exact Nat.le_refl _, by rw [PyData.weight]; exact Nat.le_refl _⟩⟩
theorem bgP.str {z : Str} {n : Nat} (h : ∀ c ∈ cd z, c < 0x110000) (hn : (cd z).length ≤ n) : bgP n 0 (.str z) := by
  refine ⟨_, by rw [D.py], ?_, rfl, rfl, rfl, by rw [PyData.depth]; exact Nat.le_refl _, ?_⟩
  · rw [PyData.canLay0]
    unfold PyData.strOk
    rw [← Array.all_toList, List.all_eq_true]
    exact fun c hc => decide_eq_true (h c hc)
  · rw [PyData.weight]
    rw [cd_len] at hn
    exact hn
end V
namespace V
open PySem PySem.Spec PyProof.Rows L2 U StX
instance pu_revT {K : PySem.W.Frag} {ta : TE} {da : DE} [A : PuE ta da] : PuE (tRevT K ta) (dRevT da) := ⟨fun S M σ δ H P Q w e h k =>
  A.run S M σ δ H _ _ w e h fun d S1 M1 v H1 p1 t1 w1 h1 => by
    obtain ⟨xs, rfl, p1⟩ := p1
    cases h1 with
    | @tup a vs _ n ha hs =>
      exact ⟨a, vs, rfl, SqT.of ha, fun p np => k _ S1 M1 _ _ p1 (t1.trans (.new np)) (w1.new np) (.tup (w1.ns np) upd_same (hs.reverse.sm (Same.new np)))⟩⟩
end V
namespace V
open PySem PySem.Spec PyProof.Rows L2 U StX
def dCallL (i : Nat) (f : Addr) (sp : DC) (t : DA) : DE := fun δ M P => δ[i]? = some (some (.ptr f)) ∧ t δ M fun ds M1 => sp ds M1 P
instance pu_callL {i : Nat} {f : Addr} {sp : DC} {E : XK} {t : TA} {dt : DA} [A : PuA t dt] : PuE (tCallL i f (lift sp) [] E t) (dCallL i f sp dt) := ⟨fun S M σ δ H P Q w e h k => by
  obtain ⟨v, hv, hd⟩ := e.at_ i _ h.1
  cases hd
  exact ⟨hv, A.run S M σ δ H _ _ w e h.2 fun ds S1 M1 vs H1 p1 t1 w1 h1 => by
    rw [List.append_nil]
    exact ⟨S1, M1, ds, P, w1, h1, p1, k.go t1⟩⟩⟩
def iKT (K : PySem.W.Frag) (a : Addr) (l : List Str) : TI := fun σ H R => (∀ H, SqT K H a (l.map V.str)) → iTup K (tC (.ref a)) σ H R
def diKT (l : List Str) : DI := fun _ M P => P (fun _ => True) (l.map D.str) M
theorem walks_KT {S : Addr → Prop} {M : Mem} {H : Hp} {K : PySem.W.Frag} {a : Addr} {l : List Str} {G : Mem → Prop} (q : ∀ H, SqT K H a (l.map V.str)) : Walks (Itt K a) G S M H (l.map D.str) where
  stop S' M' H' t w g := ⟨_, q H', by rw [List.length_map, List.length_map]; exact Nat.le_refl _⟩
  go i S' M' H' hi t w g := ⟨l.map V.str, (l.map V.str)[i]'(by rw [List.length_map] at hi ⊢; exact hi), q H', at_some _⟩
  yld i S' M' H' x H2 hi t w g y := by
    obtain ⟨rfl, y⟩ := y
    have y := y _ (q H2)
    rw [List.getElem?_map] at y
    obtain ⟨z, hz, rfl⟩ := Option.map_eq_some_iff.mp y
    exact ⟨Same.refl _, .str z, by rw [List.getElem?_map, hz]; rfl, .str z⟩
instance pu_iKT {K : PySem.W.Frag} {a : Addr} {l : List Str} : PuI (iKT K a l) (diKT l) := ⟨fun S M σ δ H P R w e h k q => ⟨a, rfl, ⟨_, q H⟩, k _ _ S M H _ h .refl w (walks_KT q)⟩⟩
def tLcM (wi : TI) (g : TG) (tt : TT) (te : TE) (vs : List Nat) : TE := tLc wi g tt te vs
def thawP (P : QD) : QD := fun d M1 => ∃ xs, d = .lst xs ∧ ∀ a, M1 a = none → P (.ptr a) (mset M1 a (.lst xs))
def dLcM (i : DI) (g : DG) (t : DT) (a : DE) (vs : List Nat) : DE := fun δ M P => dLc i g t a vs δ M (thawP P)
instance pu_lcM {ti : TI} {g : TG} {t : TT} {ta : TE} {di : DI} {dg : DG} {dt : DT} {da : DE} {sl vs : List Nat} [I : PuI ti di] [A : PuG g dg sl] [sub : SubL sl vs] [T : PuT t dt] [B : PuE ta da] : PuE (tLcM ti g t ta vs) (dLcM di dg dt da vs) := ⟨fun S M σ δ H P Q w e h k =>
  I.run S M σ δ H _ _ w e h fun G xs S1 M1 H1 J p1 t1 w1 wk => by
    intro D0 hD
    obtain ⟨g1, hn, p1⟩ := p1
    -- what stands between the turns
    let Iv : Nat → Hp → Prop := fun i H' => ∃ S' M' acc ws, G M' ∧ dGather G dg dt da vs δ (thawP P) (xs.drop i) acc M' ∧ Step S1 M1 H1 S' M' H' ∧ Wo S' M' H' ∧ En S' H' σ δ ∧ S' D0 ∧ M' D0 = none ∧ H' D0 = some (.lst ws) ∧ DtA S' H' ws acc ∧ acc.length ≤ i
    refine ⟨fun i m H' => i ≤ xs.length ∧ m = xs.length - i ∧ Iv i H', ⟨_, Nat.zero_le _, rfl, (fun a => S1 a ∨ a = D0), M1, [], [], g1, p1, .apart hD, w1.apart hD, (e.step w t1).step w1 (.apart hD), .inr rfl, w1.fresh hD, upd_same, .nil, Nat.zero_le _⟩, ?_⟩
    rintro i m H2 ⟨hi, rfl, S2, M2, acc, ws, g2, p2, t2, w2, e2, sD, mD, hL, hA, hlen⟩
    by_cases hlt : i < xs.length
    · refine .inr ⟨wk.go i S2 M2 H2 hlt t2 w2 g2, Iv (i + 1), fun H' q => ⟨_, by omega, hlt, rfl, q⟩, ?_⟩
      intro x H3 y
      obtain ⟨same, d, hd, hx⟩ := wk.yld i S2 M2 H2 x H3 hlt t2 w2 g2 y
      rw [drop_cons hd] at p2
      have t3 : Step S2 M2 H2 S2 M2 H3 := .same same
      have w3 := w2.same same
      have e3 := e2.step w2 t3
      refine A.run S2 M2 _ _ H3 x d _ _ w3 (e3.wipe vs) hx p2 fun δ4 S4 M4 σ4 H4 p4 t4 w4 e4 o4 => ⟨by rw [o4 vs sub.h, wipe_wipe], ?_⟩
      refine T.run S4 M4 σ4 δ4 H4 _ _ w4 e4 p4 fun b S5 M5 H5 p5 t5 w5 => ?_
      have t25 := (t3.trans t4).trans t5
      obtain ⟨hL5, mD5, sD5⟩ := t25.keep _ _ mD hL
      have hA5 := dtA_step w2 t25 _ hA
      cases b with
      | true =>
        rw [if_pos rfl] at p5 ⊢
        refine B.run S5 M5 σ4 δ4 H5 _ _ w5 (e4.step w4 t5) p5 fun y S6 M6 v H6 p6 t6 w6 h6 => ?_
        obtain ⟨hL6, mD6, sD6⟩ := t6.keep _ _ mD5 hL5
        have hA6 := dtA_step w5 t6 _ hA5
        have sd : S6 D0 := sD6.mpr (sD5.mpr sD)
        have ex : Ext S6 H6 (upd H6 D0 (.lst (ws ++ [v]))) := Ext.mut (Ext.refl _) sd
        refine ⟨ws, hL6, by rw [hA.length]; exact Nat.lt_of_le_of_lt hlen (Nat.lt_of_lt_of_le hlt (by rw [sizeLine_eq]; exact hn)), S6, M6, acc ++ [y], ws ++ [v], p6.1, p6.2, ?_, ?_, ?_, sd, mD6, upd_same, (hA6.snoc h6).go ex, by rw [List.length_append, List.length_singleton]; omega⟩
        · have t16 := (t2.trans t25).trans t6
          refine ⟨fun b o n hb => ?_⟩
          obtain ⟨q1, q2, q3⟩ := t16.keep b o n hb
          exact ⟨(upd_ne (ne_of_none hb hD)).trans q1, q2, q3⟩
        · refine ⟨fun a s => ?_, fun a mo q => ?_⟩
          · by_cases c : a = D0
            · rw [c, upd_same]; exact fun z => nomatch z
            · rw [upd_ne c]; exact w6.tr a s
          · obtain ⟨s, q2⟩ := w6.mem a mo q
            have c : a ≠ D0 := by rintro rfl; rw [mD6] at q; cases q
            exact ⟨s, held_ext ex (fun u hu => (upd_ne c).trans hu) q2⟩
        · have e6 : En S6 H6 σ δ := e3.step w3 ((t4.trans t5).trans t6)
          exact ⟨e6.len, fun i d h => by
            obtain ⟨v, h1, h2⟩ := e6.at_ i d h
            exact ⟨v, h1, h2.go ex⟩⟩
      | false =>
        rw [if_neg Bool.false_ne_true] at p5 ⊢
        exact ⟨S5, M5, acc, ws, p5.1, p5.2, t2.trans t25, w5, e2.step w2 t25, sD5.mpr sD, mD5, hL5, hA5, by omega⟩
    · have ei : i = xs.length := by omega
      subst ei
      rw [List.drop_length] at p2
      obtain ⟨zs, ez, p2⟩ := p2
      cases ez
      refine .inl ⟨wk.stop S2 M2 H2 t2 w2 g2, k (.ptr D0) S2 (mset M2 D0 (.lst acc)) _ H2 (p2 D0 mD) (t1.trans ⟨fun b o n hb => ?_⟩) ⟨w2.tr, fun a mo q => ?_⟩ (.ptr D0)⟩
      · obtain ⟨q1, q2, q3⟩ := t2.keep b o n hb
        exact ⟨q1, (mset_ne (ne_of_none hb hD)).trans q2, q3⟩
      · by_cases c : a = D0
        · subst c
          rw [mset_same] at q
          cases q
          exact ⟨sD, ws, hL, hA⟩
        · rw [mset_ne c] at q
          exact w2.mem a mo q⟩
def rInX (K : PySem.W.Frag) (neg : Bool) : R2 := fun x y H Q => ∃ p ps, Dp K H x p ∧ Dp K H y (.list ps) ∧ p.canLay0 = true ∧ PyData.depth p ≤ 40 ∧ PyData.canLayAll0 ps = true ∧ Q (.bl ((ps.any fun z => PyData.eqv z p) != neg)) H
section
variable {X : Cx} {K : PySem.W.Frag}
theorem op_inX (h : X.K = K) (hu : X.A.units + 64 < cLine) : OpR X (compareOp .In) (rInX K false) := by
  subst h
  intro pins s σ H x y v u Q I rx ry ⟨p, ps, hp, hl, cp, dp, cl, q⟩
  obtain ⟨as, r1⟩ := Dp.reads I p x v hp rx
  obtain ⟨bs, r2⟩ := Dp.reads I (.list ps) y u hl ry
  refine SeqAt.in_list_reads r2 r1 cl cp ?_ ⟨.bl _, H, I, rfl, by rw [Bool.bne_false] at q; exact q⟩
  have := Nat.min_le_right (PyData.depthAll ps) p.depth
  omega
end
theorem any_py {x : D} {p : PyData} (hp : D.py x = some p) : ∀ {xs : List D} {ps : List PyData}, D.pys xs = some ps → (ps.any fun z => PyData.eqv z p) = xs.any fun z => D.eqb z x
  | [], ps, h => by rw [D.pys] at h; cases h; rfl
  | d :: ds, ps, h => by
    obtain ⟨q, qs, h1, h2, rfl⟩ := pys_cons h
    rw [List.any_cons, List.any_cons, eqv_py d x q p h1 hp, any_py hp h2]
def rInX1 (neg : Bool) : DR := fun x y M P => ∃ xs W k W' k', isLs M y xs ∧ okP W k x ∧ k ≤ 40 ∧ okPs W' k' xs ∧ P (.bl ((xs.any fun z => D.eqb z x) != neg)) M
instance op_inX1 {K : PySem.W.Frag} {neg : Bool} : OpD (rInX K neg) (rInX1 neg) := ⟨fun S M H x y dx dy P Q w hx hy h k => by
  obtain ⟨xs, W, n, W', n', hs, ⟨p, ep, op⟩, hn, ⟨ps, eps, ops⟩, hp⟩ := h
  have e : D.py (.lst xs) = some (.list ps) := by rw [D.py, eps]; rfl
  have hv : vw M dy = .lst xs := by
    rcases hs with rfl | ⟨a, rfl, ha⟩
    · rfl
    · unfold vw; simp only [ha]
  have hl : Dp K H y (.list ps) := dt_vw w hy (by rw [hv]; exact e)
  refine ⟨p, ps, Dt.dp _ hx ep, hl, op.lay, Nat.le_trans op.dep hn, ops.lay, k _ S M _ H ?_ .refl w (.bl _)⟩
  rw [any_py ep eps]
  exact hp⟩
end V
namespace V
open PySem PySem.Spec PyProof.Rows L2 U StX
/-- how many different numbers -/
def dcn (ns : List Int) : Nat := (firstMet (fun i => ns.getD i 0) ns.length).length
def tLenSetG (K : PySem.W.Frag) (ta : TE) : TE := fun σ H Q => ta σ H fun x H1 => ∃ l ns, x = V.ref l ∧ SqL K H1 l (ns.map V.int) ∧ ns.length ≤ 4000 ∧ Q (V.int (dcn ns : Nat)) H1
def dLenSetG (a : DE) : DE := fun δ M P => a δ M fun x M1 => ∃ ns, isLs M1 x (ns.map D.int) ∧ ns.length ≤ 4000 ∧ P (.int (dcn ns : Nat)) M1
instance pu_lenSetG {K : PySem.W.Frag} {ta : TE} {da : DE} [A : PuE ta da] : PuE (tLenSetG K ta) (dLenSetG da) := ⟨fun S M σ δ H P Q w e h k =>
  A.run S M σ δ H _ _ w e h fun d S1 M1 v H1 p1 t1 w1 h1 => by
    obtain ⟨ns, h2, hn, p1⟩ := p1
    obtain ⟨a, us, rfl, ha, hs⟩ := ls_get w1 h1 h2
    have eu := hs.ints_eq
    subst eu
    exact ⟨a, ns, rfl, SqL.of ha, hn, k _ S1 M1 _ H1 p1 t1 w1 (.int _)⟩⟩
theorem dtA_keys {S : Addr → Prop} {H : Hp} : ∀ ks : List Key, DtA S H (ks.map kV) (ks.map kD)
  | [] => .nil
  | k :: ks => .cons (by cases k with
    | inl i => exact .int i
    | inr z => exact .str z) (dtA_keys ks)
def rListDK1 : DC := fun ds M P => ∃ p kvs, ds = [.ptr p] ∧ M p = some (.dic kvs) ∧ P (.lst (kvs.map fun kv => kD kv.1)) M
instance cb_listDK : CbD rListD rListDK1 := ⟨fun S M H vs ds P Q w hv h k => by
  obtain ⟨p, kvs, rfl, hm, p1⟩ := h
  match vs, hv with
  | [v], .cons h1 .nil =>
    cases h1
    obtain ⟨_, ws, ha, hk, hs⟩ := w.mem p _ hm
    refine ⟨p, ws, rfl, ha, fun q nq => k _ S M _ _ p1 (.new nq) (w.new nq) (.lst (w.ns nq) upd_same ?_)⟩
    have e1 : (ws.map fun kv => kV kv.1) = (ws.map (·.1)).map kV := by rw [List.map_map]; rfl
    have e2 : (kvs.map fun kv => kD kv.1) = (kvs.map (·.1)).map kD := by rw [List.map_map]; rfl
    rw [e1, e2, hk]
    exact dtA_keys _⟩
end V
namespace V
open PySem PySem.Spec PyProof.Rows L2 U StX
end V
namespace V
open PySem PySem.Spec PyProof.Rows L2 U StX
/-- the places of xs[::k] -/
def stepJ (k : Int) (n : Nat) : List Nat := sliceRange (sliceBounds none none (some k) n).1 (sliceBounds none none (some k) n).2.1 (sliceBounds none none (some k) n).2.2
def stepG {α : Type} (k : Int) (xs : List α) : List α := (stepJ k xs.length).filterMap fun j => xs[j]?
theorem dtA_picked {S : Addr → Prop} {H : Hp} {vs : List V} {ds : List D} (h : DtA S H vs ds) : ∀ js : List Nat, DtA S H (js.filterMap fun j => vs[j]?) (js.filterMap fun j => ds[j]?)
  | [] => .nil
  | j :: js => by
    have ih := dtA_picked h js
    rw [List.filterMap_cons, List.filterMap_cons]
    cases e : ds[j]? with
    | none =>
      have : vs[j]? = none := List.getElem?_eq_none (by rw [h.length]; exact List.getElem?_eq_none_iff.mp e)
      rw [this]
      exact ih
    | some d =>
      obtain ⟨v, h1, h2⟩ := h.get e
      rw [h1]
      exact .cons h2 ih
def tStepL (K : PySem.W.Frag) (k : Int) (te : TE) : TE := fun σ H Q => te σ H fun x H1 => ∃ a xs, x = V.ref a ∧ SqL K H1 a xs ∧ ∀ p, H1 p = none → Q (V.ref p) (upd H1 p (.lst (stepG k xs)))
def dStepL (k : Int) (a : DE) : DE := fun δ M P => a δ M fun x M1 => ∃ xs, isLs M1 x xs ∧ P (.lst (stepG k xs)) M1
instance pu_stepL {K : PySem.W.Frag} {k : Int} {ta : TE} {da : DE} [A : PuE ta da] : PuE (tStepL K k ta) (dStepL k da) := ⟨fun S M σ δ H P Q w e h kk =>
  A.run S M σ δ H _ _ w e h fun d S1 M1 v H1 p1 t1 w1 h1 => by
    obtain ⟨xs, h2, p1⟩ := p1
    obtain ⟨a, vs, rfl, ha, hs⟩ := ls_get w1 h1 h2
    refine ⟨a, vs, rfl, SqL.of ha, fun p np => kk _ S1 M1 _ _ p1 (t1.trans (.new np)) (w1.new np) (.lst (w1.ns np) upd_same ?_)⟩
    unfold stepG
    rw [hs.length]
    exact (dtA_picked hs _).sm (Same.new np)⟩
end V
namespace V
open PySem PySem.Spec PyProof.Rows L2 U StX
/-- x != y of two instances: what __eq__ says, the other way -/
def rNeOwn (C : Addr) (sp : Sp) : R2 := fun x y H Q => ∃ a b dx dy fs gs, x = V.ref a ∧ y = V.ref b ∧ H a = some (.ins C dx fs) ∧ H b = some (.ins C dy gs) ∧ sp [.ref a, .ref b] H (fun v H' => ∃ t, v = V.bl t ∧ Q (.bl (!t)) H') L2.E0
def rNeOwnD (C : Addr) (sp : DC) : DR := fun x y M P => (∃ n1 x1 n2 x2, x = .ins C n1 x1 ∧ y = .ins C n2 x2) ∧ sp [x, y] M fun d M' => ∃ t, d = .bl t ∧ P (.bl (!t)) M'
instance op_neOwnD {C : Addr} {sp : DC} : OpD (rNeOwn C (lift sp)) (rNeOwnD C sp) := ⟨fun S M H x y dx dy P Q w hx hy h k => by
  obtain ⟨⟨n1, x1, n2, x2, rfl, rfl⟩, h⟩ := h
  have gx := hx
  have gy := hy
  cases hx with
  | ins _ ha _ _ =>
    cases hy with
    | ins _ hb _ _ =>
      refine ⟨_, _, _, _, _, _, rfl, rfl, ha, hb, S, M, _, _, w, .cons gx (.cons gy .nil), h, fun d S' M' v H' p t w' hv => ?_⟩
      obtain ⟨b, rfl, p⟩ := p
      cases hv
      exact ⟨b, rfl, k _ S' M' _ H' p t w' (.bl _)⟩⟩
end V
namespace V
open PySem PySem.Spec PyProof.Rows L2 U StX
def dPairs : List (DE × DE) → Dl → Mem → (List (D × D) → Mem → Prop) → Prop
  | [], _, M, P => P [] M
  | (a, b) :: r, δ, M, P => a δ M fun x M1 => b δ M1 fun y M2 => dPairs r δ M2 fun ps M3 => P ((x, y) :: ps) M3
class PuPs (t : List (TE × TE)) (d : outParam (List (DE × DE))) : Prop where
  run : ∀ S M σ δ H (P : List (D × D) → Mem → Prop) (Q : List (V × V) → Hp → Prop), Wo S M H → En S H σ δ → dPairs d δ M P →
    (∀ ps S' M' vs H', P ps M' → Step S M H S' M' H' → Wo S' M' H' → DtA S' H' (vs.map (·.1)) (ps.map (·.1)) → DtA S' H' (vs.map (·.2)) (ps.map (·.2)) → Q vs H') → tPairs t σ H Q
instance pups_nil : PuPs [] [] := ⟨fun S M σ δ H P Q w e h k => k [] S M [] H h .refl w .nil .nil⟩
instance pups_cons {ta tb : TE} {da db : DE} {t : List (TE × TE)} {d : List (DE × DE)} [A : PuE ta da] [B : PuE tb db] [R : PuPs t d] : PuPs ((ta, tb) :: t) ((da, db) :: d) := ⟨fun S M σ δ H P Q w e h k =>
  A.run S M σ δ H _ _ w e h fun x S1 M1 v H1 p1 t1 w1 h1 =>
    B.run S1 M1 σ δ H1 _ _ w1 (e.step w t1) p1 fun y S2 M2 u H2 p2 t2 w2 h2 =>
      R.run S2 M2 σ δ H2 _ _ w2 (e.step w (t1.trans t2)) p2 fun ps S3 M3 vs H3 p3 t3 w3 h3 h4 =>
        k ((x, y) :: ps) S3 M3 ((v, u) :: vs) H3 p3 ((t1.trans t2).trans t3) w3 (.cons (dt_step w1 (t2.trans t3) _ h1) h3) (.cons (dt_step w2 t3 _ h2) h4)⟩
theorem keys_of {S : Addr → Prop} {H : Hp} : ∀ {vs : List (V × V)} {ks : List Key}, DtA S H (vs.map (·.1)) (ks.map kD) → vs.map (·.1) = ks.map kV
  | [], [], _ => rfl
  | [], _ :: _, h => by cases h
  | _ :: _, [], h => by cases h
  | v :: vs, k :: ks, h => by
    rw [List.map_cons, List.map_cons] at h
    cases h with
    | cons h1 h2 => rw [List.map_cons, List.map_cons, keys_of h2, dt_kD h1]
theorem merge_apart : ∀ (more acc : List (Key × V)), ((acc ++ more).map (·.1)).Nodup → mergeK acc more = acc ++ more
  | [], acc, _ => by rw [List.append_nil]; rfl
  | p :: more, acc, h => by
    show mergeK (putK acc p.1 p.2) more = _
    have no : (acc.any fun kv => decide (kv.1 = p.1)) = false := by
      cases c : acc.any fun kv => decide (kv.1 = p.1) with
      | false => rfl
      | true =>
        obtain ⟨q, hq, e⟩ := List.any_eq_true.mp c
        rw [List.map_append, List.nodup_append] at h
        exact (h.2.2 _ (List.mem_map.mpr ⟨q, hq, rfl⟩) _ (List.mem_map.mpr ⟨p, List.mem_cons_self, rfl⟩) (of_decide_eq_true e)).elim
    have e : putK acc p.1 p.2 = acc ++ [p] := by
      unfold putK
      rw [no, if_neg Bool.false_ne_true]
    rw [e, merge_apart more (acc ++ [p]) (by rw [List.append_assoc]; exact h), List.append_assoc]
    rfl
def dDisp (d : List (DE × DE)) : DE := fun δ M P => ∀ a, M a = none → dPairs d δ (mset M a (.dic [])) fun ps M2 => M2 a = some (.dic []) ∧ ∃ kvs : List (Key × D), ps = kvs.map (fun kv => (kD kv.1, kv.2)) ∧ kvs.length ≤ 15 ∧ (kvs.map (·.1)).Nodup ∧ P (.ptr a) (mset M2 a (.dic kvs))
instance pu_disp {t : List (TE × TE)} {d : List (DE × DE)} [R : PuPs t d] : PuE (tDisp t) (dDisp d) := ⟨fun S M σ δ H P Q w e h k p np => by
  have w1 : Wo (fun a => S a ∨ a = p) (mset M p (.dic [])) (upd H p (.dK [])) := w.mutable np ⟨[], upd_same, rfl, .nil⟩
  have t1 : Step S M H (fun a => S a ∨ a = p) (mset M p (.dic [])) (upd H p (.dK [])) := Step.mutable w np
  refine R.run _ _ σ δ _ _ _ w1 (e.step w t1) (h p (w.fresh np)) fun ps S2 M2 vs H2 p2 t2 w2 h3 h4 => ?_
  obtain ⟨hm, kvs, rfl, hl, nd, p3⟩ := p2
  rw [List.map_map] at h3 h4
  have ek : vs.map (·.1) = (kvs.map (·.1)).map kV := keys_of (by rw [List.map_map]; exact h3)
  have hlen : vs.length = kvs.length := by
    have := congrArg List.length ek
    rwa [List.length_map, List.length_map, List.length_map] at this
  obtain ⟨_, ws0, ha, hk0, _⟩ := w2.mem p _ hm
  have e0 : ws0 = [] := List.map_eq_nil_iff.mp hk0
  subst e0
  let ws : List (Key × V) := (kvs.map (·.1)).zip (vs.map (·.2))
  have wk : ws.map (·.1) = kvs.map (·.1) := by
    show ((kvs.map (·.1)).zip (vs.map (·.2))).map Prod.fst = _
    rw [List.map_fst_zip (by rw [List.length_map, List.length_map]; omega)]
  have wv : ws.map (·.2) = vs.map (·.2) := by
    show ((kvs.map (·.1)).zip (vs.map (·.2))).map Prod.snd = _
    rw [List.map_snd_zip (by rw [List.length_map, List.length_map]; omega)]
  have ev : vs = ws.map fun kv => (kV kv.1, kv.2) := by
    have e1 : (ws.map fun kv => (kV kv.1, kv.2)).map (·.1) = vs.map (·.1) := by
      rw [ek, ← wk, List.map_map, List.map_map]; rfl
    have e2 : (ws.map fun kv => (kV kv.1, kv.2)).map (·.2) = vs.map (·.2) := by
      rw [← wv, List.map_map]; rfl
    have two : ∀ {l m : List (V × V)}, l.map (·.1) = m.map (·.1) → l.map (·.2) = m.map (·.2) → l = m := by
      intro l
      induction l with
      | nil => intro m a b; cases m with
        | nil => rfl
        | cons => cases a
      | cons x l ih => intro m a b; cases m with
        | nil => cases a
        | cons y m =>
          rw [List.map_cons, List.map_cons, List.cons.injEq] at a b
          rw [ih a.2 b.2, Prod.ext a.1 b.1]
    exact (two e1 e2).symm
  have em : mergeK [] ws = ws := merge_apart ws [] (by rw [List.nil_append, wk]; exact nd)
  refine ⟨ha, ws, ev, by rw [← List.length_map (f := Prod.fst), wk, List.length_map]; exact hl, ?_⟩
  rw [em]
  refine k (.ptr p) S2 (mset M2 p (.dic kvs)) _ _ p3 ((t1.trans t2).trans (Step.change hm)) (w2.change hm ⟨ws, upd_same, wk, ?_⟩) (.ptr p)
  rw [wv]
  have h5 : DtA S2 H2 (vs.map (·.2)) (kvs.map (·.2)) := h4
  have ex : U.Ext S2 H2 (upd H2 p (.dK ws)) := Ext.mut (Ext.refl _) (w2.mem p _ hm).1
  exact h5.go ex⟩
end V
namespace V
open PySem PySem.Spec PyProof.Rows L2 U StX
/-- one text more -/
def met1 (l : List Str) (x : Str) : List Str := if x ∈ l then l else l ++ [x]
/-- the texts met, each once -/
def metS (ts : List Str) : List Str := ts.foldl met1 []
def tLenSetS (K : PySem.W.Frag) (ta : TE) : TE := fun σ H Q => ta σ H fun x H1 => ∃ l ts, x = V.ref l ∧ (SqL K H1 l (ts.map V.str) ∨ SqT K H1 l (ts.map V.str)) ∧ ts.length ≤ 4000 ∧ Q (V.int ((metS ts).length : Nat)) H1
def dLenSetS (a : DE) : DE := fun δ M P => a δ M fun x M1 => ∃ ts : List Str, (isLs M1 x (ts.map D.str) ∨ x = .tup (ts.map D.str)) ∧ ts.length ≤ 4000 ∧ P (.int ((metS ts).length : Nat)) M1
instance pu_lenSetS {K : PySem.W.Frag} {ta : TE} {da : DE} [A : PuE ta da] : PuE (tLenSetS K ta) (dLenSetS da) := ⟨fun S M σ δ H P Q w e h k =>
  A.run S M σ δ H _ _ w e h fun d S1 M1 v H1 p1 t1 w1 h1 => by
    obtain ⟨ts, h2, hn, p1⟩ := p1
    rcases h2 with h2 | rfl
    · obtain ⟨a, us, rfl, ha, hs⟩ := ls_get w1 h1 h2
      have eu := hs.strs_eq
      subst eu
      exact ⟨a, ts, rfl, .inl (SqL.of ha), hn, k _ S1 M1 _ H1 p1 t1 w1 (.int _)⟩
    · cases h1 with
      | tup n ha hs =>
        have eu := hs.strs_eq
        subst eu
        exact ⟨_, ts, rfl, .inr (SqT.of ha), hn, k _ S1 M1 _ H1 p1 t1 w1 (.int _)⟩⟩
theorem lc_run {J : It} {G : Mem → Prop} {g : TG} {t : TT} {ta : TE} {dg : DG} {dt : DT} {da : DE} {sl vs : List Nat} [A : PuG g dg sl] [sub : SubL sl vs] [T : PuT t dt] [B : PuE ta da] {S1 : Addr → Prop} {M1 : Mem} {H1 : Hp} {xs : List D} {σ : L2.St} {δ : Dl} {P : QD} {Q : VK}
    (wk : Walks J G S1 M1 H1 xs) (w1 : Wo S1 M1 H1) (e1 : En S1 H1 σ δ) (g1 : G M1) (hn : xs.length ≤ 16777216) (p1 : dGather G dg dt da vs δ P xs [] M1) (k : ∀ d S' M' v H', P d M' → Step S1 M1 H1 S' M' H' → Wo S' M' H' → Dt S' H' v d → Q v H') :
    tLc (fun _ H R => R J H) g t ta vs σ H1 Q := by
  intro D0 hD
  let Iv : Nat → Hp → Prop := fun i H' => ∃ S' M' acc ws, G M' ∧ dGather G dg dt da vs δ P (xs.drop i) acc M' ∧ Step S1 M1 H1 S' M' H' ∧ Wo S' M' H' ∧ En S' H' σ δ ∧ S' D0 ∧ M' D0 = none ∧ H' D0 = some (.lst ws) ∧ DtA S' H' ws acc ∧ acc.length ≤ i
  refine ⟨fun i m H' => i ≤ xs.length ∧ m = xs.length - i ∧ Iv i H', ⟨_, Nat.zero_le _, rfl, (fun a => S1 a ∨ a = D0), M1, [], [], g1, p1, .apart hD, w1.apart hD, e1.step w1 (.apart hD), .inr rfl, w1.fresh hD, upd_same, .nil, Nat.zero_le _⟩, ?_⟩
  rintro i m H2 ⟨hi, rfl, S2, M2, acc, ws, g2, p2, t2, w2, e2, sD, mD, hL, hA, hlen⟩
  by_cases hlt : i < xs.length
  · refine .inr ⟨wk.go i S2 M2 H2 hlt t2 w2 g2, Iv (i + 1), fun H' q => ⟨_, by omega, hlt, rfl, q⟩, ?_⟩
    intro x H3 y
    obtain ⟨same, d, hd, hx⟩ := wk.yld i S2 M2 H2 x H3 hlt t2 w2 g2 y
    rw [drop_cons hd] at p2
    have t3 : Step S2 M2 H2 S2 M2 H3 := .same same
    have w3 := w2.same same
    have e3 := e2.step w2 t3
    refine A.run S2 M2 _ _ H3 x d _ _ w3 (e3.wipe vs) hx p2 fun δ4 S4 M4 σ4 H4 p4 t4 w4 e4 o4 => ⟨by rw [o4 vs sub.h, wipe_wipe], ?_⟩
    refine T.run S4 M4 σ4 δ4 H4 _ _ w4 e4 p4 fun b S5 M5 H5 p5 t5 w5 => ?_
    have t25 := (t3.trans t4).trans t5
    obtain ⟨hL5, mD5, sD5⟩ := t25.keep _ _ mD hL
    have hA5 := dtA_step w2 t25 _ hA
    cases b with
    | true =>
      rw [if_pos rfl] at p5 ⊢
      refine B.run S5 M5 σ4 δ4 H5 _ _ w5 (e4.step w4 t5) p5 fun y S6 M6 v H6 p6 t6 w6 h6 => ?_
      obtain ⟨hL6, mD6, sD6⟩ := t6.keep _ _ mD5 hL5
      have hA6 := dtA_step w5 t6 _ hA5
      have sd : S6 D0 := sD6.mpr (sD5.mpr sD)
      have ex : Ext S6 H6 (upd H6 D0 (.lst (ws ++ [v]))) := Ext.mut (Ext.refl _) sd
      refine ⟨ws, hL6, by rw [hA.length]; exact Nat.lt_of_le_of_lt hlen (Nat.lt_of_lt_of_le hlt (by rw [sizeLine_eq]; exact hn)), S6, M6, acc ++ [y], ws ++ [v], p6.1, p6.2, ?_, ?_, ?_, sd, mD6, upd_same, (hA6.snoc h6).go ex, by rw [List.length_append, List.length_singleton]; omega⟩
      · have t16 := (t2.trans t25).trans t6
        refine ⟨fun b o n hb => ?_⟩
        obtain ⟨q1, q2, q3⟩ := t16.keep b o n hb
        exact ⟨(upd_ne (ne_of_none hb hD)).trans q1, q2, q3⟩
      · refine ⟨fun a s => ?_, fun a mo q => ?_⟩
        · by_cases c : a = D0
          · rw [c, upd_same]; exact fun z => nomatch z
          · rw [upd_ne c]; exact w6.tr a s
        · obtain ⟨s, q2⟩ := w6.mem a mo q
          have c : a ≠ D0 := by rintro rfl; rw [mD6] at q; cases q
          exact ⟨s, held_ext ex (fun u hu => (upd_ne c).trans hu) q2⟩
      · have e6 : En S6 H6 σ δ := e3.step w3 ((t4.trans t5).trans t6)
        exact ⟨e6.len, fun i d h => by
          obtain ⟨v, h1, h2⟩ := e6.at_ i d h
          exact ⟨v, h1, h2.go ex⟩⟩
    | false =>
      rw [if_neg Bool.false_ne_true] at p5 ⊢
      exact ⟨S5, M5, acc, ws, p5.1, p5.2, t2.trans t25, w5, e2.step w2 t25, sD5.mpr sD, mD5, hL5, hA5, by omega⟩
  · have ei : i = xs.length := by omega
    subst ei
    rw [List.drop_length] at p2
    refine .inl ⟨wk.stop S2 M2 H2 t2 w2 g2, k _ (fun a => S2 a ∧ a ≠ D0) M2 _ H2 p2 ⟨fun b o n hb => ?_⟩ ⟨fun a s => w2.tr a s.1, fun a mo q => ?_⟩ (.lst (fun z => z.2 rfl) hL (dtA_freeze hA))⟩
    · obtain ⟨q1, q2, q3⟩ := t2.keep b o n hb
      have c := ne_of_none hb hD
      exact ⟨q1, q2, ⟨fun z => q3.mp z.1, fun z => ⟨q3.mpr z, c⟩⟩⟩
    · obtain ⟨s, q2⟩ := w2.mem a mo q
      have c : a ≠ D0 := by rintro rfl; rw [mD] at q; cases q
      exact ⟨⟨s, c⟩, held_set (fun b n _ z => n z.1) q2⟩
theorem mdel_none {M : Mem} {p : Addr} : mdel M p p = none := if_pos rfl
theorem mdel_ne {M : Mem} {a p : Addr} (h : a ≠ p) : mdel M p a = M a := if_neg h
/-- [.. for x in d.values()] -/
def dLcV (a : DE) (g : DG) (t : DT) (e : DE) (vs : List Nat) : DE := fun δ M P => ∃ p kvs, M p = some (.dic kvs) ∧ a δ (mdel M p) fun x M1 => x = .ptr p ∧ kvs.length ≤ 16777216 ∧ dGather (fun _ => True) g t e vs δ (fun d M' => P d (mset M' p (.dic kvs))) (kvs.map (·.2)) [] M1
instance pu_lcV {td : TE} {g : TG} {t : TT} {ta : TE} {dd : DE} {dg : DG} {dt : DT} {da : DE} {sl vs : List Nat} [A : PuE td dd] [B : PuG g dg sl] [sub : SubL sl vs] [C : PuT t dt] [E : PuE ta da] : PuE (tLockE (tLc (iVals td) g t ta vs)) (dLcV dd dg dt da vs) := ⟨fun S M σ δ H P Q w e h k => by
  obtain ⟨p, kvs, hm, h⟩ := h
  obtain ⟨sp, ws, ha, hk, hs⟩ := w.mem p _ hm
  refine ⟨p, .dK ws, ha, trivial, fun od => ?_⟩
  have ex : Ext S H (upd H p (.frz od (.dK ws))) := Ext.mut (Ext.refl _) sp
  have w0 : Wo S (mdel M p) (upd H p (.frz od (.dK ws))) := ⟨fun a s => by
    by_cases c : a = p
    · rw [c, upd_same]; exact fun z => nomatch z
    · rw [upd_ne c]; exact w.tr a s, fun a mo q => by
    have c : a ≠ p := by rintro rfl; rw [mdel_none] at q; cases q
    rw [mdel_ne c] at q
    obtain ⟨s, q2⟩ := w.mem a mo q
    exact ⟨s, held_ext ex (fun u hu => (upd_ne c).trans hu) q2⟩⟩
  have e0 : En S (upd H p (.frz od (.dK ws))) σ δ := ⟨e.len, fun i d h => by
    obtain ⟨v, h1, h2⟩ := e.at_ i d h
    exact ⟨v, h1, h2.go ex⟩⟩
  refine A.run S _ σ δ _ _ _ w0 e0 h fun x S1 M1 v H1 p1 t1 w1 h1 => ?_
  obtain ⟨rfl, hn, p1⟩ := p1
  cases h1
  obtain ⟨f1, m1, s1⟩ := t1.keep p _ mdel_none upd_same
  refine ⟨p, od, ws, rfl, f1, ?_⟩
  have hs1 : DtA S1 H1 (ws.map (·.2)) (kvs.map (·.2)) := dtA_step w0 t1 _ (hs.go ex)
  have el : ws.length = kvs.length := len_held hk
  have wk : Walks (Itd p od ws) (fun _ => True) S1 M1 H1 (kvs.map (·.2)) :=
    ⟨fun S' M' H' t' w' _ => ⟨(t'.keep p _ m1 f1).1, by rw [List.length_map]; omega⟩, fun i S' M' H' hi t' w' _ => ⟨(t'.keep p _ m1 f1).1, by rw [List.length_map] at hi; omega⟩, fun i S' M' H' x H2 hi t' w' _ y => by
      obtain ⟨rfl, key, hy⟩ := y
      obtain ⟨d, e1, e2⟩ := (dtA_step w1 t' _ hs1).getV (i := i) (v := x) (by rw [List.getElem?_map, hy]; rfl)
      exact ⟨Same.refl _, d, e1, e2⟩⟩
  refine lc_run (Q := fun v H' => H' p = some (.frz od (.dK ws)) ∧ Q v (upd H' p (.dK ws))) (ta := ta) (t := t) (g := g) (vs := vs) (δ := δ) wk w1 (e0.step w0 t1) trivial (by rw [List.length_map]; exact hn) p1 fun d S' M' v H' q t' w' hv => ?_
  obtain ⟨f2, m2, s2⟩ := t'.keep p _ m1 f1
  have sp' : S' p := s2.mpr (s1.mpr sp)
  have ex' : Ext S' H' (upd H' p (.dK ws)) := Ext.mut (Ext.refl _) sp'
  refine ⟨f2, k d S' _ v _ q ⟨fun b o n hb => ?_⟩ ⟨fun a s => ?_, fun a mo q2 => ?_⟩ (hv.go ex')⟩
  · have c : b ≠ p := by rintro rfl; rw [hm] at n; cases n
    obtain ⟨q1, q2, q3⟩ := (t1.trans t').keep b o ((mdel_ne c).trans n) ((upd_ne c).trans hb)
    exact ⟨(upd_ne c).trans q1, (mset_ne c).trans q2, q3⟩
  · by_cases c : a = p
    · rw [c, upd_same]; exact fun z => nomatch z
    · rw [upd_ne c]; exact w'.tr a s
  · by_cases c : a = p
    · subst c
      rw [mset_same] at q2
      cases q2
      exact ⟨sp', ws, upd_same, hk, (dtA_step w1 t' _ hs1).go ex'⟩
    · rw [mset_ne c] at q2
      obtain ⟨s, q3⟩ := w'.mem a mo q2
      exact ⟨s, held_ext ex' (fun u hu => (upd_ne c).trans hu) q3⟩⟩
end V
namespace V
open PySem PySem.Spec PyProof.Rows L2 U StX
end V
namespace V
open PySem PySem.Spec PyProof.Rows L2 U StX
section
variable {X : Cx} {pins : List (Addr × Obj)} {σ : L2.St} {H : Hp} {s : Shared} {n : Nat} {f : Addr} {fd : FuncData} {ps : List Str} {sp : Sp} {a C : Addr} {y : V} {v : Value} {Q : VK}
/-- the __eq__ is called with anything -/
theorem run_own2 (F : FnOk X.prog X.w X.K X.mg X.base L2.CX0 n f fd ps sp) (hb : Binds X.K fd ps []) {A : Around} (sb : Sub X n A) (I : Inv X pins σ H s) (ry : RelV y v) (h : sp [.ref a, y] H Q L2.E0) :
    wpAny (model X.prog X.w) A (call (.ref f) [.ref a, v]) (EP X pins σ Q) X.xe s := by
  have env : Env0 X.prog X.w X.K X.mg X.base A X.stack s H := by
    have e := I.env0
    exact { frames := (by rw [sb.fr]; exact e.frames), mod := e.mod, bs := e.bs, bsz := e.bsz, funs := e.funs, frf := e.frf, hok := e.hok, bare := e.bare }
  have len := F.len _ _ _ _ h
  have vals : Vals [V.ref a, y] [Value.ref a, v] := .cons rfl (.cons ry .nil)
  have bnd := hb s [.ref a, v] I.kIn (by simpa using len)
  refine wpAny_call (codeAny_mono (F.run A X.stack s H ⟨[.ref a, v], []⟩ _ _ _ _ sb.room env (by simpa using bnd) vals h) fun r s' hq => ?_)
  match r with
  | .error e => exact pass0 pins σ H s e s' I hq
  | .ok (.ret u) =>
    obtain ⟨z, H', I', rz, q⟩ := I.after hq
    exact ⟨z, H', I', rz, q⟩
  | .ok .next => exact hq.elim
  | .ok .brk => exact hq.elim
  | .ok .cont => exact hq.elim
/-- what the other thing may be -/
inductive Oth (C : Addr) (H : Hp) : V → Value → Prop
  | non : Oth C H .non (.type "NoneType")
  | str (x : Str) : Oth C H (.str x) (.type "str")
  | tup {b : Addr} {xs : List V} : H b = some (.tup xs) → Oth C H (.ref b) (.type "tuple")
  | ins {b dx : Addr} {fs : List (Str × V)} : H b = some (.ins C dx fs) → Oth C H (.ref b) (.ref C)
theorem oth_look {tb : Value} (o : Oth C H y tb) (I : Inv X pins σ H s) (ry : RelV y v) : PySem.W.Looks (model X.prog X.w) s.heap (typeOf v) tb := by
  cases o with
  | non =>
    obtain rfl : v = .none := ry
    exact PySem.W.Looks.of_pure rfl
  | str x =>
    obtain ⟨t, rfl⟩ := ry
    exact PySem.W.Looks.of_pure rfl
  | tup h =>
    cases ry
    obtain ⟨_, its, _, ob, e, c, _⟩ := (show ObjOk X.prog X.w H s.heap _ (.tup _) from I.hok _ _ h)
    exact fun A Q E s' k q => wpAny_typeOf (T := "tuple") ⟨ob, k _ _ e, c⟩ q
  | ins h =>
    cases ry
    obtain ⟨mB, J, _⟩ := ins_get I.hok h
    obtain ⟨ob, J, _⟩ := J.look
    exact J.type
/-- the K's word on the other thing's class -/
structure NoSub (K : PySem.W.Frag) (C : Addr) : Prop where
  non : PySem.W.subIn K (.type "NoneType") (.ref C) = some false
  str : PySem.W.subIn K (.type "str") (.ref C) = some false
  tup : PySem.W.subIn K (.type "tuple") (.ref C) = some false
theorem NoSub.first {K : PySem.W.Frag} {tb : Value} (N : NoSub K C) (o : Oth C H y tb) : PySem.W.notFirst K C tb = true := by
  unfold PySem.W.notFirst
  cases o with
  | non => rw [N.non]; rfl
  | str x => rw [N.str]; rfl
  | tup h => rw [N.tup]; rfl
  | ins h => simp
theorem rc_own (F : FnOk X.prog X.w X.K X.mg X.base L2.CX0 n f fd ps sp) (hb : Binds X.K fd ps []) (N : NoSub X.K C) (he : PySem.W.findIn X.K (.ref C) "__eq__" = some (some (.ref f))) (hf : PySem.W.isFn X.K (.ref f) = true)
    {A : Around} (sb : Sub X n A) (I : Inv X pins σ H s) {dx : Addr} {fs : List (Str × V)} (ha : H a = some (.ins C dx fs)) {tb : Value} (o : Oth C H y tb) (ry : RelV y v) (h : sp [.ref a, y] H (fun r H' => ∃ t, r = .bl t ∧ Q (.bl t) H') L2.E0) :
    wpAny (model X.prog X.w) A (richCompare .Eq (.ref a) v) (fun r s' => ∃ t, r = .bool t ∧ EP X pins σ Q (.bool t) s') X.xe s := by
  obtain ⟨mA, J, _⟩ := ins_get I.hok ha
  obtain ⟨ob, J, _⟩ := J.look
  obtain ⟨m, hF⟩ := I.fr
  refine PySem.W.cmp_K (op := .Eq) sb.room.units0 hF I.ok.mod.kin J (oth_look o I ry) (N.first o) he hf (wpAny_mono (run_own2 F hb sb I ry h) (fun r s' q => ?_) fun _ _ e => e)
  obtain ⟨z, H', I', rz, t, rfl, q⟩ := q
  cases rz
  exact ⟨t, rfl, .bl t, H', I', rfl, q⟩
/-- x == y, x an instance with an __eq__ of its own -/
def rEqOwn (C : Addr) (sp : Sp) : R2 := fun x y H Q => ∃ a dx fs tb, x = V.ref a ∧ H a = some (.ins C dx fs) ∧ Oth C H y tb ∧ sp [.ref a, y] H (fun v H' => ∃ t, v = V.bl t ∧ Q (.bl t) H') L2.E0
theorem eqB_own {A : Around} {E : Value → Shared → Prop} {Q : Bool → Shared → Prop} {M : Model} (h : wpAny M A (richCompare .Eq (.ref a) .none) (fun r s' => ∃ t, r = .bool t ∧ Q t s') E s) : wpAny M A (eqBool (.ref a) .none) Q E s := by
  unfold eqBool
  refine wpAny_holding (wpAny_ite_split (fun e => ?_) fun _ => ?_)
  · exact absurd e (by simp)
  · refine wpAny_bind (wpAny_mono h (fun v s' q => ?_) fun _ _ e => e)
    obtain ⟨t, rfl, q⟩ := q
    exact wpAny_truthy_bool q
/-- None in xs, each of xs an instance that is not equal to None -/
def rInOwn (C : Addr) (sp : Sp) : R2 := fun x y H Q => ∃ l xs, x = V.non ∧ y = V.ref l ∧ ∃ W : Nat → Hp → Prop, W 0 H ∧ ∀ i H', W i H' → H' l = some (.lst xs) ∧ (xs.length ≤ i → Q (.bl false) H') ∧
  ∀ z, xs[i]? = some z → ∃ a dx fs, z = V.ref a ∧ H' a = some (.ins C dx fs) ∧ sp [.ref a, .non] H' (fun v H2 => ∃ t, v = V.bl t ∧ (V.bl t = V.bl false ∧ W (i + 1) H2)) L2.E0
end
section
variable {X : Cx} {pins : List (Addr × Obj)} {σ : L2.St} {n : Nat} {f : Addr} {fd : FuncData} {ps : List Str} {sp : Sp} {C l : Addr} {xs : List V} {W : Nat → Hp → Prop} {A : Around} {R : Result → Shared → Prop}
theorem in_turns (hb : Binds X.K fd ps []) (F : FnOk X.prog X.w X.K X.mg X.base L2.CX0 n f fd ps sp) (N : NoSub X.K C) (he : PySem.W.findIn X.K (.ref C) "__eq__" = some (some (.ref f))) (hf : PySem.W.isFn X.K (.ref f) = true) (sb : Sub X n A.in1)
    (go : ∀ i H', W i H' → H' l = some (.lst xs) ∧ (xs.length ≤ i → ∀ s', Inv X pins σ H' s' → R (.ok (.ret (.bool false))) s') ∧ ∀ z, xs[i]? = some z → ∃ a dx fs, z = V.ref a ∧ H' a = some (.ins C dx fs) ∧ sp [.ref a, .non] H' (fun v H2 => ∃ t, v = V.bl t ∧ (V.bl t = V.bl false ∧ W (i + 1) H2)) L2.E0)
    (er : ∀ e s', X.xe e s' → R (.error e) s') : ∀ (k i : Nat) (s : Shared) (H : Hp), xs.length - i = k → i ≤ xs.length → Inv X pins σ H s → W i H →
    wpAny (model X.prog X.w) A.in1 (Builtin.«list.__contains__.loop» ⟨[.ref l, .none, rawInt i], []⟩) (GQ.FinOf X.prog X.w A R) (fun e s' => R (.error e) s') s
  | k, i, s, H, hk, hi, I, w => by
    obtain ⟨hl, stop, step⟩ := go i H w
    obtain ⟨its, r, pl, _⟩ := I.list (SqL.of hl)
    obtain ⟨⟨cls, dd, dt, sl⟩, ho, hcl, nl, hd⟩ := pl.isList
    simp only at hcl hd
    subst hcl
    subst hd
    have lz : its.length = xs.length := r.length.symm
    by_cases c : i < xs.length
    · obtain ⟨u, hu, ru⟩ := r.get (i := i) (x := xs[i]) (List.getElem?_eq_getElem c)
      obtain ⟨a, dx, fs, ez, ha, h⟩ := step xs[i] (List.getElem?_eq_getElem c)
      rw [ez] at ru
      obtain rfl : u = .ref a := ru
      have hj : its.toArray[((i : Nat) : Int).toNat]? = some (.ref a) := by rw [Int.toNat_natCast, List.getElem?_toArray]; exact hu
      have rc := rc_own (y := .non) (v := .none) (Q := fun v H2 => v = .bl false ∧ W (i + 1) H2) F hb N he hf sb I ha .non rfl (by
        simpa using h)
      obtain ⟨hp, g, d, tk, os⟩ := s
      wp_walk using AutoSeq1.wpAny_loadPart' ho
      rw [hj]
      refine wpAny_bind (eqB_own (Q := fun t s' => EP X pins σ (fun v H2 => v = .bl false ∧ W (i + 1) H2) (.bool t) s') (wpAny_mono rc (fun r s' q => q) fun e s' q => er e s' q) |> fun z => wpAny_mono z (fun t s2 q => ?_) fun _ _ e => e)
      obtain ⟨z, H2, I2, rz, rfl, w2⟩ := q
      cases rz
      have ec : ((i : Int) + 1) = ((i + 1 : Nat) : Int) := by omega
      have more := in_turns hb F N he hf sb go er (k - 1) (i + 1) s2 H2 (by omega) c I2 w2
      obtain ⟨hp2, g2, d2, tk2, os2⟩ := s2
      wp_walk
      rw [ec]
      exact ⟨plainId_quiet MeetsSeq.plain_contains_loop _, codeAny_builtin MeetsSeq.entry_contains_loop (by rw [Around.under_plainId MeetsSeq.plain_contains_loop _]; exact more)⟩
    · have hj : its.toArray[((i : Nat) : Int).toNat]? = none := by rw [Int.toNat_natCast, List.getElem?_toArray]; exact List.getElem?_eq_none (by omega)
      have fin := stop (by omega) s I
      obtain ⟨hp, g, d, tk, os⟩ := s
      wp_walk using AutoSeq1.wpAny_loadPart' ho
      rw [hj]
      wp_walk
      exact fin
  termination_by k => k
end
section
variable {X : Cx} {n : Nat} {f C : Addr} {fd : FuncData} {ps : List Str} {sp : Sp}
theorem op_inOwn (hb : Binds X.K fd ps []) (F : FnOk X.prog X.w X.K X.mg X.base L2.CX0 n f fd ps sp) (hr : Room (n + 1) X.A) (N : NoSub X.K C) (he : PySem.W.findIn X.K (.ref C) "__eq__" = some (some (.ref f))) (hf : PySem.W.isFn X.K (.ref f) = true) : OpR X (compareOp .In) (rInOwn C sp) := by
  intro pins s σ H x y v u Q I rx ry ⟨l, xs, ex, ey, W, w, go⟩
  subst ex
  subst ey
  obtain rfl : v = .none := rx
  obtain rfl : u = .ref l := ry
  obtain ⟨its, r, pl, _⟩ := I.list (SqL.of (go 0 H w).1)
  obtain ⟨⟨cls, dd, dt, sl⟩, ho, hcl, nl, hd⟩ := pl.isList
  simp only at hcl hd
  subst hcl
  subst hd
  have tl : s.TypeIs (.ref l) "list" := ⟨_, ho, rfl⟩
  show wpAny (model X.prog X.w) X.A (do return Value.bool (← contains (.ref l) .none)) _ X.xe s
  refine wpAny_bind ?_
  unfold contains
  try with_reducible refine wpAny_holding ?_
  refine wpAny_bind (wpAny_specialOf tl PySem.F.slot_list_contains.lookup ?_)
  show wpAny (model X.prog X.w) X.A (if (some (Value.builtin "list.__contains__") == some Value.none) = true then _ else _) _ X.xe s
  rw [if_neg (by rw [beq_builtin_none]; exact Bool.false_ne_true)]
  refine wpAny_bind (wpAny_callSpecialUnlessNone?_slot (name := Str.ofString "__contains__") tl PySem.F.slot_list_contains (GQ.call_here PySem.F.slot_list_contains tl PySem.F.entry_list_contains (PySem.F.args_list_contains_2 _ _) ?_))
  have key : ∀ {R : Result → Shared → Prop}, (∀ s', EP X pins σ Q (Value.bool false) s' → R (.ok (.ret (Value.bool false))) s') → (∀ e s', X.xe e s' → R (.error e) s') →
      wpAny (model X.prog X.w) X.A.in1 (Builtin.«list.__contains__.loop» ⟨[.ref l, .none, rawInt (0 : Nat)], []⟩) (GQ.FinOf X.prog X.w X.A R) (fun e s' => R (.error e) s') s := fun {R} h1 h2 =>
    in_turns (A := X.A) (l := l) (xs := xs) hb F N he hf ⟨hr.in1, rfl⟩
      (fun i H' w' => ⟨(go i H' w').1, fun c s' I' => h1 s' ⟨.bl false, H', I', rfl, (go i H' w').2.1 c⟩, (go i H' w').2.2⟩) h2 _ 0 s H rfl (Nat.zero_le _) I w
  have q1 : ∀ s', EP X pins σ Q (Value.bool false) s' → EP X pins σ Q (Value.bool false) s' := fun _ q => q
  obtain ⟨hp, g, d, tk, os⟩ := s
  wp_walk
  refine ⟨plainId_quiet MeetsSeq.plain_contains_loop _, codeAny_builtin MeetsSeq.entry_contains_loop ?_⟩
  rw [Around.under_plainId MeetsSeq.plain_contains_loop _]
  refine key (fun s' q => ?_) fun e s' q => q
  exact wpAny_truthy_bool (wpAny_pure q)
end
def rEqOwnD (C : Addr) (sp : DC) : DR := fun x y M P => ∃ n1 x1, x = .ins C n1 x1 ∧ (y = .non ∨ (∃ z, y = .str z) ∨ (∃ ys, y = .tup ys) ∨ ∃ n2 x2, y = .ins C n2 x2) ∧ sp [x, y] M fun d M' => ∃ t, d = .bl t ∧ P (.bl t) M'
instance op_eqOwnD {C : Addr} {sp : DC} : OpD (rEqOwn C (lift sp)) (rEqOwnD C sp) := ⟨fun S M H x y dx dy P Q w hx hy h k => by
  obtain ⟨n1, x1, rfl, hyk, h⟩ := h
  have gx := hx
  have gy := hy
  have fin : ∀ {a : Addr}, Dt S H (.ref a) (.ins C n1 x1) → lift sp [.ref a, y] H (fun v H' => ∃ t, v = V.bl t ∧ Q (.bl t) H') L2.E0 := fun {a} ha => ⟨S, M, _, _, w, .cons ha (.cons gy .nil), h, fun d S' M' v H' p t w' hv => by
    obtain ⟨b, rfl, p⟩ := p
    cases hv
    exact ⟨b, rfl, k _ S' M' _ H' p t w' (.bl _)⟩⟩
  cases hx with
  | ins _ ha _ _ =>
    rcases hyk with rfl | ⟨z, rfl⟩ | ⟨ys, rfl⟩ | ⟨n2, x2, rfl⟩
    · cases hy
      exact ⟨_, _, _, _, rfl, ha, .non, fin gx⟩
    · cases hy
      exact ⟨_, _, _, _, rfl, ha, .str z, fin gx⟩
    · cases hy with
      | tup _ hb _ => exact ⟨_, _, _, _, rfl, ha, .tup hb, fin gx⟩
    · cases hy with
      | ins _ hb _ _ => exact ⟨_, _, _, _, rfl, ha, .ins hb, fin gx⟩⟩
/-- each is asked whether it is None, and says no -/
def dAskAll (C : Addr) (sp : DC) (P : QD) : List D → Mem → Prop
  | [], M => P (.bl false) M
  | d :: ds, M => (∃ n x, d = .ins C n x) ∧ sp [d, .non] M fun v M' => v = .bl false ∧ dAskAll C sp P ds M'
def rInOwnD (C : Addr) (sp : DC) : DR := fun x y M P => ∃ ds, x = .non ∧ y = .lst ds ∧ dAskAll C sp P ds M
instance op_inOwnD {C : Addr} {sp : DC} : OpD (rInOwn C (lift sp)) (rInOwnD C sp) := ⟨fun S M H x y dx dy P Q w hx hy h k => by
  obtain ⟨ds, rfl, rfl, h⟩ := h
  cases hx
  cases hy with
  | @lst l xs _ hn ha hs =>
    refine ⟨l, xs, rfl, rfl, fun i H' => ∃ S' M', Step S M H S' M' H' ∧ Wo S' M' H' ∧ dAskAll C sp P (ds.drop i) M', ⟨S, M, .refl, w, h⟩, ?_⟩
    rintro i H' ⟨S', M', t, w', q⟩
    have hl := dt_step w t _ (Dt.lst hn ha hs)
    cases hl with
    | lst hn' ha' hs' =>
      obtain ⟨e1, _, _⟩ := t.keep _ _ (w.mn hn) ha
      rw [ha'] at e1
      cases e1
      have el := hs'.length
      refine ⟨ha', fun c => ?_, fun z hz => ?_⟩
      · rw [List.drop_of_length_le (by omega)] at q
        exact k _ S' M' _ H' q t w' (.bl _)
      · obtain ⟨d, hd, hv⟩ := hs'.getV hz
        rw [drop_cons hd] at q
        obtain ⟨⟨n1, x1, rfl⟩, q⟩ := q
        have gv := hv
        cases hv with
        | ins _ hb _ _ =>
          refine ⟨_, _, _, rfl, hb, S', M', _, _, w', .cons gv (.cons .non .nil), q, fun d' S2 M2 v H2 p t2 w2 hv2 => ?_⟩
          obtain ⟨rfl, p⟩ := p
          cases hv2
          exact ⟨false, rfl, rfl, S2, M2, t.trans t2, w2, p⟩⟩
/-- the keys of the dict of the module named so are hashed as texts are -/
class KDs (K : PySem.W.Frag) (w : World) (name : Str) : Prop where
  lit : ∀ a es n, K.lookup a = some ⟨.type "dict", none, .dict es n, #[]⟩ → PySem.W.nsIn K mainGlobals name = some (some (.ref a)) → PySem.W.KeysLit w.params es.toList
theorem kds_mk {K : PySem.W.Frag} {w : World} {name : Str} {a : Addr} {es : Array DictEntry} {n : Nat} (h1 : PySem.W.nsIn K mainGlobals name = some (some (.ref a))) (h2 : K.lookup a = some ⟨.type "dict", none, .dict es n, #[]⟩) (h3 : PySem.W.KeysLit w.params es.toList) : KDs K w name := ⟨fun b fs m e1 e2 => by
  rw [h1] at e2
  cases e2
  rw [h2] at e1
  cases e1
  exact h3⟩
/-- a dict of the module: texts and numbers -/
structure KTab (K : PySem.W.Frag) (name : Str) (a : Addr) (l : List (Str × Int)) : Prop where
  at_ : ∃ es n, K.lookup a = some ⟨.type "dict", none, .dict es n, #[]⟩
  ns : PySem.W.nsIn K mainGlobals name = some (some (.ref a))
  low : (a == sysModules) = false
  val : ∀ p ∈ l, ∃ u, PySem.W.nsIn K a p.1 = some (some u) ∧ RelV (.int p.2) u
def KVals (K : PySem.W.Frag) (a : Addr) : List (Str × Int) → Prop
  | [] => True
  | p :: l => (∃ t, PySem.W.nsIn K a p.1 = some (some (Value.int p.2 t))) ∧ KVals K a l
theorem KVals.val {K : PySem.W.Frag} {a : Addr} : ∀ {l : List (Str × Int)}, KVals K a l → ∀ p ∈ l, ∃ u, PySem.W.nsIn K a p.1 = some (some u) ∧ RelV (.int p.2) u
  | [], _, p, hp => (by cases hp)
  | q :: l, h, p, hp => by
    rcases List.mem_cons.mp hp with rfl | hp
    · obtain ⟨t, e⟩ := h.1
      exact ⟨_, e, t, rfl⟩
    · exact KVals.val h.2 p hp
def tKGet (l : List (Str × Int)) (te : TE) : TE := fun σ H Q => te σ H fun y H1 => ∃ p ∈ l, y = .str p.1 ∧ Q (.int p.2) H1
theorem pe_kget {X : Cx} {K : PySem.W.Frag} {w : World} {name : Str} {a : Addr} {l : List (Str × Int)} {o e : Expr} {te : TE} {apos cpos : Pos} (hK : X.K = K) (hw : X.w = w) (T : KTab K name a l) [D : KDs K w name] (ho : PE X o (tC (.ref a))) (he : PE X e te) (m : M1 X o "get" apos e cpos) :
    PE X (.Call (.Attribute o "get" apos) [e] [] cpos) (tKGet l te) := by
  subst hK
  subst hw
  refine ⟨fun pins s σ H Q I h => ?_⟩
  obtain ⟨es, n, hl⟩ := T.at_
  have lit := D.lit a es n hl T.ns
  have nameQ : (tC (.ref a)) σ H fun x H1 => x = .ref a ∧ te σ H1 fun y H2 => ∃ p ∈ l, y = .str p.1 ∧ Q (.int p.2) H2 := ⟨rfl, h⟩
  refine wpAny_Call_method m.base m.few m.line PySem.F.plainAttrs_dict PySem.F.slot_dict_get PySem.F.type_dict_get (thn (ho.run pins s σ H _ I nameQ) fun u s1 ⟨x, H1, I1, rx, ex, q1⟩ => ?_)
  subst ex
  obtain rfl : u = Value.ref a := rx
  have hm := PySem.W.mapOf_K (prog := X.prog) (w := X.w) I1.kIn hl lit
  obtain ⟨ob, _, _, hob1, hob2, _⟩ := id hm
  refine ⟨hm.typeIs, fun b q => (by cases q; exact ⟨ob, hob1, hob2.2.1⟩), ?_⟩
  rw [m.trees]
  refine Calls.callWith_builtin rfl (Calls.evalArgs_plain (Calls.spliced_cons (thn (he.run pins s1 σ H1 _ I1 q1) fun iv s2 ⟨y, H2, I2, ry, p, hp, ey, q2⟩ => Calls.spliced_nil ?_)))
  subst ey
  obtain ⟨t, rfl⟩ := ry
  obtain ⟨u0, hu0, ru0⟩ := T.val p hp
  have hm2 := PySem.W.mapOf_K (prog := X.prog) (w := X.w) I2.kIn hl lit
  refine call_meetsIn PySem.F.slot_dict_get hm2.typeIs PySem.F.entry_dict_get (PySem.F.args_dict_get_2 _ _) (meets_dict_get (PySem.strKind X.prog X.w) a (PySem.strKind_is X.prog X.w p.1 t) T.low) ⟨_, hm2, .int p.2, H2, I2.tok _, ?_, q2⟩
  rw [PySem.W.find_K hl hu0]
  exact ru0
def dKGet (l : List (Str × Int)) (e : DE) : DE := fun δ M P => e δ M fun y M1 => ∃ p ∈ l, y = .str p.1 ∧ P (.int p.2) M1
instance pu_kget {l : List (Str × Int)} {te : TE} {de : DE} [A : PuE te de] : PuE (tKGet l te) (dKGet l de) := ⟨fun S M σ δ H P Q w e h k =>
  A.run S M σ δ H _ _ w e h fun x S1 M1 v1 H1 p1 t1 w1 h1 => by
    obtain ⟨p, hp, rfl, p1⟩ := p1
    cases h1
    exact ⟨p, hp, rfl, k _ S1 M1 _ H1 p1 t1 w1 (.int _)⟩⟩
theorem x_kget {l : List (Str × Int)} {e : DE} {δ : Dl} {M : Mem} {P : QD} (h : e δ M fun y M1 => ∃ p ∈ l, y = .str p.1 ∧ P (.int p.2) M1) : dKGet l e δ M P := h
end V
namespace V
open PySem PySem.Spec PyProof.Rows L2 U StX
def rRepM : R2 := rRep
def rRepM1 : DR := fun x y M P => ∃ xs k, isLs M x xs ∧ y = .int k ∧ -(2 ^ 63) ≤ k ∧ k < 2 ^ 63 ∧ xs.length * k.toNat ≤ sizeLine ∧ ∀ a, M a = none → P (.ptr a) (mset M a (.lst (List.replicate k.toNat xs).flatten))
instance op_repM1 : OpD rRepM rRepM1 := ⟨fun S M H x y dx dy P Q w hx hy h k => by
  obtain ⟨xs, i, hl, rfl, h1, h2, h3, h⟩ := h
  obtain ⟨a, vs, rfl, ha, hs⟩ := ls_get w hx hl
  cases hy
  refine ⟨a, i, vs, rfl, rfl, ha, h1, h2, by rw [hs.length]; exact h3, fun p hp => ?_⟩
  have hs2 := (dtA_rep hs i.toNat).sm (Same.new (o := .lst (List.replicate i.toNat vs).flatten) hp)
  have hs3 : DtA (fun a => S a ∨ a = p) (upd H p (.lst (List.replicate i.toNat vs).flatten)) (List.replicate i.toNat vs).flatten (List.replicate i.toNat xs).flatten := by
    have := DtA.set (S := S) (S' := fun a => S a ∨ a = p) (fun b n k z => z.elim n fun q => k (by rw [q]; exact hp)) _ (dtA_rep hs i.toNat)
    exact this.sm (Same.new hp)
  exact k (.ptr p) _ _ (.ref p) _ (h p (w.fresh hp)) (.mutable w hp) (w.mutable hp ⟨_, upd_same, hs3⟩) (.ptr p)⟩
end V
namespace V
open PySem PySem.Spec PyProof.Rows L2 U StX
section
variable {X : Cx} {pins : List (Addr × Obj)} {σ : L2.St} {H : Hp} {s : Shared}
def rInDT : R2 := fun y x H Q => ∃ a kvs, x = V.ref a ∧ H a = some (.dT kvs) ∧ ((∃ z, y = V.str z ∧ Q (.bl false) H) ∨ ∃ b k, y = V.ref b ∧ H b = some (.tup (k.map kV)) ∧ Q (.bl (valV kvs k).isSome) H)
end
def valT (kvs : List (List Key × D)) (k : List Key) : Option D := (kvs.find? fun kv => decide (kv.1 = k)).map (·.2)
theorem valT_pos {p : List Key × D} {r : List (List Key × D)} {k : List Key} (e : p.1 = k) : valT (p :: r) k = some p.2 := by simp [valT, List.find?_cons, e]
theorem valT_neg {p : List Key × D} {r : List (List Key × D)} {k : List Key} (e : ¬ p.1 = k) : valT (p :: r) k = valT r k := by simp [valT, List.find?_cons, e]
section
variable {S : Addr → Prop} {M : Mem} {H : Hp}
theorem dtA_kk : ∀ {ks : List Key} {vs : List V}, DtA S H vs (ks.map kD) → vs = ks.map kV
  | [], _, .nil => rfl
  | _ :: _, _, .cons h t => by rw [dt_kD h, dtA_kk t]; rfl
theorem valT_held : ∀ {ws : List (List Key × V)} {kvs : List (List Key × D)}, ws.map (·.1) = kvs.map (·.1) → DtA S H (ws.map (·.2)) (kvs.map (·.2)) → ∀ k, (valT kvs k = none ∧ valV ws k = none) ∨ ∃ d v, valT kvs k = some d ∧ valV ws k = some v ∧ Dt S H v d
  | [], [], _, _, k => .inl ⟨rfl, rfl⟩
  | [], _ :: _, h, _, _ => by simp at h
  | _ :: _, [], h, _, _ => by simp at h
  | (a, v) :: ws, (b, d) :: kvs, hk, hs, k => by
    simp only [List.map_cons, List.cons.injEq] at hk
    obtain ⟨rfl, hk⟩ := hk
    cases hs with
    | cons h1 h2 =>
      by_cases c : a = k
      · exact .inr ⟨d, v, valT_pos c, valV_pos c, h1⟩
      · rw [valT_neg (p := (a, d)) c, valV_neg (p := (a, v)) c]
        exact valT_held hk h2 k
theorem lenT_held {ws : List (List Key × V)} {kvs : List (List Key × D)} (hk : ws.map (·.1) = kvs.map (·.1)) : ws.length = kvs.length := by
  have := congrArg List.length hk
  rwa [List.length_map, List.length_map] at this
end
def dDNewT : DE := fun δ M P => ∀ a, M a = none → P (.ptr a) (mset M a (.dct []))
instance pu_dnewT : PuE tDNewT dDNewT := ⟨fun S M σ δ H P Q w e h k p hp =>
  k (.ptr p) _ _ (.ref p) _ (h p (w.fresh hp)) (.mutable w hp) (w.mutable hp ⟨[], upd_same, rfl, .nil⟩) (.ptr p)⟩
def rInDT1 : DR := fun y x M P => ∃ p kvs, x = .ptr p ∧ M p = some (.dct kvs) ∧ ((∃ z, y = .str z ∧ P (.bl false) M) ∨ ∃ ks : List Key, y = .tup (ks.map kD) ∧ P (.bl (valT kvs ks).isSome) M)
instance op_inDT1 : OpD rInDT rInDT1 := ⟨fun S M H y x dy dx P Q w hy hx h k => by
  obtain ⟨p, kvs, rfl, hm, h⟩ := h
  cases hx
  obtain ⟨_, ws, ha, hk, hs⟩ := w.mem p _ hm
  rcases h with ⟨z, rfl, q⟩ | ⟨ks, rfl, q⟩
  · cases hy
    exact ⟨p, ws, rfl, ha, .inl ⟨z, rfl, k _ S M _ H q .refl w (.bl _)⟩⟩
  · cases hy with
    | tup n hb hv =>
      rw [dtA_kk hv] at hb
      refine ⟨p, ws, rfl, ha, .inr ⟨_, ks, rfl, hb, ?_⟩⟩
      rcases valT_held hk hs ks with ⟨e1, e2⟩ | ⟨d, v, e1, e2, e3⟩
      · rw [e2]
        rw [e1] at q
        exact k _ S M _ H q .refl w (.bl _)
      · rw [e2]
        rw [e1] at q
        exact k _ S M _ H q .refl w (.bl _)⟩
/-- d[k], the key a tuple -/
def tDGetT (td ty : TE) : TE := tDGet td ty
def dDIxT (a b : DE) : DE := fun δ M P => a δ M fun x M1 => b δ M1 fun y M2 => ∃ p kvs, ∃ ks : List Key, ∃ d, x = .ptr p ∧ M2 p = some (.dct kvs) ∧ y = .tup (ks.map kD) ∧ valT kvs ks = some d ∧ P d M2
instance pu_dixT {ta tb : TE} {da db : DE} [A : PuE ta da] [B : PuE tb db] : PuE (tDGetT ta tb) (dDIxT da db) := ⟨fun S M σ δ H P Q w e h k =>
  A.run S M σ δ H _ _ w e h fun x S1 M1 v1 H1 p1 t1 w1 h1 => B.run S1 M1 σ δ H1 _ _ w1 (e.step w t1) p1 fun y S2 M2 v2 H2 p2 t2 w2 h2 => by
    obtain ⟨p, kvs, ks, d, rfl, hm, rfl, hv, p2⟩ := p2
    cases h1
    obtain ⟨_, ws, ha, hk, hs⟩ := w2.mem p _ hm
    cases h2 with
    | tup n hb hvs =>
      rw [dtA_kk hvs] at hb
      rcases valT_held hk hs ks with ⟨e1, e2⟩ | ⟨d', v, e1, e2, e3⟩
      · rw [hv] at e1; cases e1
      · rw [hv] at e1; cases e1
        exact ⟨p, v, rfl, e2 ▸ DGet.t ha hb, k _ _ _ _ _ p2 (t1.trans t2) w2 e3⟩⟩
/-- d[k] = v, the key a tuple that is new -/
def sDPutT (td ty tv : TE) : TS := sDPut td ty tv
def sDPutTD (a b c : DE) : DS := fun nx rt bk ct δ M => c δ M fun z M1 => a δ M1 fun x M2 => b δ M2 fun y M3 => ∃ p kvs, ∃ ks : List Key, x = .ptr p ∧ M3 p = some (.dct kvs) ∧ y = .tup (ks.map kD) ∧ valT kvs ks = none ∧ kvs.length < sizeLine ∧ nx δ (mset M3 p (.dct (kvs ++ [(ks, z)])))
instance pu_dputT {ta tb tc : TE} {da db dc : DE} [A : PuE ta da] [B : PuE tb db] [C : PuE tc dc] : PuS (sDPutT ta tb tc) (sDPutTD da db dc) := ⟨fun S M σ δ H nx rt bk ct E w e h l =>
  C.run S M σ δ H _ _ w e h fun z S1 M1 v1 H1 p1 t1 w1 h1 => A.run S1 M1 σ δ H1 _ _ w1 (e.step w t1) p1 fun x S2 M2 v2 H2 p2 t2 w2 h2 =>
    B.run S2 M2 σ δ H2 _ _ w2 (e.step w (t1.trans t2)) p2 fun y S3 M3 v3 H3 p3 t3 w3 h3 => by
      obtain ⟨p, kvs, ks, rfl, hm, rfl, hn, hl, q⟩ := p3
      cases h2
      obtain ⟨sp, ws, ha, hk, hs⟩ := w3.mem p _ hm
      have t123 := (t1.trans t2).trans t3
      have hv := dt_step w1 (t2.trans t3) _ h1
      cases h3 with
      | tup n hb hvs =>
        rw [dtA_kk hvs] at hb
        rcases valT_held hk hs ks with ⟨e1, e2⟩ | ⟨d', v, e1, e2, e3⟩
        · have ep : putK ws ks v1 = ws ++ [(ks, v1)] := by
            unfold putK
            rw [valV_any, e2]
            rfl
          have ex : Ext S3 H3 (upd H3 p (.dT (putK ws ks v1))) := Ext.mut (Ext.refl _) sp
          have t4 : Step S M H S3 (mset M3 p (.dct (kvs ++ [(ks, z)]))) (upd H3 p (.dT (putK ws ks v1))) := t123.trans (.change hm)
          refine ⟨p, _, rfl, DPut.t ha hb (by rw [lenT_held hk]; exact hl), l.nx _ _ _ _ _ q t4 (w3.change hm ⟨_, upd_same, ?_, ?_⟩) (e.step w t4)⟩
          · rw [ep, List.map_append, List.map_append, hk]
            rfl
          · rw [ep, List.map_append, List.map_append]
            exact ((hs.go (ep ▸ ex)).snoc (hv.go (ep ▸ ex)))
        · rw [hn] at e1; cases e1⟩
end V
namespace V
open PySem PySem.Spec PyProof.Rows L2 U StX
inductive MK where
  | sg (c : Nat)
  | pl (s i : Nat)
deriving DecidableEq
def MK.D : MK → D
  | .sg c => sgn c
  | .pl s i => .tup [.int (s : Nat), .int (i : Nat)]
end V
namespace V
open PySem PySem.Spec PyProof.Rows L2 U StX
section
variable {X : Cx}
def rMinS (K : PySem.W.Frag) : List V → Hp → VK → Prop := fun vs H Q => ∃ (a : Addr) (zs : List Str), vs = [V.ref a] ∧ SqL K H a (zs.map V.str) ∧ 0 < zs.length ∧ ∀ m, m ∈ zs → (∀ y, y ∈ zs → ¬ cd y < cd m) → Q (.str m) H
end
def rMinS1 : DC := fun ds M P => ∃ (x : D) (zs : List Str), ds = [x] ∧ isLs M x (zs.map D.str) ∧ 0 < zs.length ∧ ∀ m, m ∈ zs → (∀ y, y ∈ zs → ¬ cd y < cd m) → P (.str m) M
theorem dtA_strs {S : Addr → Prop} {H : Hp} : ∀ {zs : List Str} {vs : List V}, DtA S H vs (zs.map D.str) → vs = zs.map V.str
  | [], _, .nil => rfl
  | _ :: _, _, .cons h t => by cases h; rw [dtA_strs t]; rfl
instance cb_minS {K : PySem.W.Frag} : CbD (rMinS K) rMinS1 := ⟨fun S M H vs ds P Q w hv h k => by
  obtain ⟨x, zs, rfl, hl, h0, q⟩ := h
  match vs, hv with
  | [v], .cons h1 .nil =>
    obtain ⟨a, us, rfl, ha, hs⟩ := ls_get w h1 hl
    rw [dtA_strs hs] at ha
    exact ⟨a, zs, rfl, SqL.of ha, h0, fun m h2 h3 => k _ S M _ H (q m h2 h3) .refl w (.str m)⟩⟩
end V
namespace V
open PySem PySem.Spec PyProof.Rows L2 U StX
def rRepT1 : DR := fun x y M P => ∃ xs k, x = .tup xs ∧ y = .int k ∧ xs ≠ [] ∧ 2 ≤ k ∧ k ≤ 1000 ∧ xs.length ≤ 1000 ∧ P (.tup (List.replicate k.toNat xs).flatten) M
instance op_repT1 {K : PySem.W.Frag} : OpD (rRepT K) rRepT1 := ⟨fun S M H x y dx dy P Q w hx hy h k => by
  obtain ⟨xs, i, rfl, rfl, h0, h1, h2, h3, h⟩ := h
  cases hy
  cases hx with
  | tup n ha hs =>
    rename_i a vs
    have hl := hs.length
    refine ⟨_, i, vs, rfl, rfl, SqT.of ha, fun z => ?_, h1, h2, by omega, fun p hp => ?_⟩
    · rw [z] at hl
      exact h0 (List.length_eq_zero_iff.mp hl.symm)
    · exact k (.tup _) _ _ (.ref p) _ h (.new hp) (w.new hp) (.tup (w.ns hp) upd_same ((dtA_rep hs i.toNat).sm (Same.new hp)))⟩
end V
namespace V
open PySem PySem.Spec PyProof.Rows L2 U StX
end V
namespace V
open PySem PySem.Spec PyProof.Rows L2 U StX
/-- J walks these data whatever the heap is -/
structure WalksA (J : It) (xs : List D) : Prop where
  stop : ∀ H', J.stop xs.length H'
  go : ∀ i H', i < xs.length → J.go i H'
  yld : ∀ i H' x H2, i < xs.length → J.yld i H' x H2 → Same H' H2 ∧ ∃ d, xs[i]? = some d ∧ ∀ S', Dt S' H2 x d
theorem walksA_of {J : It} {xs : List D} (h : ∀ S M H, Wo S M H → Walks J (fun _ => True) S M H xs) (hd : ∀ d ∈ xs, ∃ i, d = .int i) : WalksA J xs where
  stop H' := (h N0 (fun _ => none) H' (wo_none H')).stop _ _ _ .refl (wo_none H') trivial
  go i H' hi := (h N0 (fun _ => none) H' (wo_none H')).go i _ _ _ hi .refl (wo_none H') trivial
  yld i H' x H2 hi y := by
    obtain ⟨s, d, e, k⟩ := (h N0 (fun _ => none) H' (wo_none H')).yld i _ _ _ x H2 hi .refl (wo_none H') trivial y
    refine ⟨s, d, e, fun S' => ?_⟩
    obtain ⟨j, rfl⟩ := hd d (List.mem_of_getElem? e)
    cases k
    exact .int j
abbrev DIA := Dl → Mem → (List D → Mem → Prop) → Prop
class PuIA (t : TI) (dt : outParam DIA) : Prop where
  run : ∀ S M σ δ H (P : List D → Mem → Prop) (R : It → Hp → Prop), Wo S M H → En S H σ δ → dt δ M P → (∀ xs S' M' H' J, P xs M' → Step S M H S' M' H' → Wo S' M' H' → WalksA J xs → R J H') → t σ H R
def dA1 (a : DA) : DIA := fun δ M P => a δ M fun xs M1 => ∃ j : Int, xs = [.int j] ∧ -(2 ^ 62) ≤ j ∧ j < 2 ^ 62 ∧ P (rgD 0 j) M1
instance pu_ia1 {tt : TA} {dd : DA} [A : PuA tt dd] : PuIA (iRng1 tt) (dA1 dd) := ⟨fun S M σ δ H P R w e h k =>
  A.run S M σ δ H _ _ w e h fun d S1 M1 v H1 p1 t1 w1 h1 => by
    obtain ⟨j, rfl, b1, b2, p1⟩ := p1
    match v, h1 with
    | [_], .cons (.int _) .nil => exact ⟨j, rfl, b1, b2, k _ S1 M1 H1 _ p1 t1 w1 (walksA_of (fun S M H w => walks_rng (by rw [Int.sub_zero])) fun d hd => by
      obtain ⟨i, hi⟩ := List.getElem?_of_mem hd
      have hl := (List.getElem?_eq_some_iff.mp hi).1
      rw [rgD_get hl] at hi
      exact ⟨_, (Option.some.inj hi).symm⟩)⟩⟩
def dIn (g1 : DG) (t1 : DT) (a : DE) (vs1 : List Nat) (δ : Dl) (Kn : List D → Mem → Prop) : List D → List D → Mem → Prop
  | [], acc, M => Kn acc M
  | y :: ys, acc, M => g1 y (wipeD δ vs1) M fun δ3 M1 => t1 δ3 M1 fun b M2 => if b = true then a δ3 M2 fun z M3 => acc.length < sizeLine ∧ dIn g1 t1 a vs1 δ Kn ys (acc ++ [z]) M3 else dIn g1 t1 a vs1 δ Kn ys acc M2
def dGather2 (G : Mem → Prop) (g : DG) (t : DT) (i1 : DIA) (g1 : DG) (t1 : DT) (a : DE) (vs vs1 : List Nat) (δ : Dl) (P : QD) : List D → List D → Mem → Prop
  | [], acc, M => P (.lst acc) M
  | x :: xs, acc, M => g x (wipeD δ vs) M fun δ1 M1 => t δ1 M1 fun b M2 => if b = true then i1 δ1 M2 fun ys M3 => dIn g1 t1 a vs1 δ1 (fun acc M4 => G M4 ∧ dGather2 G g t i1 g1 t1 a vs vs1 δ P xs acc M4) ys acc M3 else G M2 ∧ dGather2 G g t i1 g1 t1 a vs vs1 δ P xs acc M2
def dLc2 (i : DI) (g : DG) (t : DT) (i1 : DIA) (g1 : DG) (t1 : DT) (a : DE) (vs vs1 : List Nat) : DE := fun δ M P => i δ M fun G xs M1 => G M1 ∧ dGather2 G g t i1 g1 t1 a vs vs1 δ P xs [] M1
theorem en_push {S : Addr → Prop} {H : Hp} {σ : L2.St} {δ : Dl} {D0 : Addr} {o : HO} (e : En S H σ δ) (sd : S D0) : En S (upd H D0 o) σ δ := ⟨e.len, fun i d h => by
  obtain ⟨v, h1, h2⟩ := e.at_ i d h
  exact ⟨v, h1, h2.go (Ext.mut (Ext.refl _) sd)⟩⟩
theorem wo_push {S : Addr → Prop} {M : Mem} {H : Hp} {D0 : Addr} {o : HO} (w : Wo S M H) (sd : S D0) (mD : M D0 = none) : Wo S M (upd H D0 o) := by
  refine ⟨fun a s => ?_, fun a mo q => ?_⟩
  · by_cases c : a = D0
    · rw [c, upd_same]; exact fun z => nomatch z
    · rw [upd_ne c]; exact w.tr a s
  · obtain ⟨s, q2⟩ := w.mem a mo q
    have c : a ≠ D0 := by rintro rfl; rw [mD] at q; cases q
    exact ⟨s, held_ext (Ext.mut (Ext.refl _) sd) (fun u hu => (upd_ne c).trans hu) q2⟩
theorem step_push {S1 S' : Addr → Prop} {M1 M' : Mem} {H1 H' : Hp} {D0 : Addr} {o : HO} (t : Step S1 M1 H1 S' M' H') (hD : H1 D0 = none) : Step S1 M1 H1 S' M' (upd H' D0 o) := ⟨fun b u n hb => by
  obtain ⟨q1, q2, q3⟩ := t.keep b u n hb
  exact ⟨(upd_ne (ne_of_none hb hD)).trans q1, q2, q3⟩⟩
set_option maxHeartbeats 16000000 in
instance pu_lc2 {ti ti1 : TI} {g g1 : TG} {t t1 : TT} {ta : TE} {di : DI} {di1 : DIA} {dg dg1 : DG} {dt dt1 : DT} {da : DE} {sl sl1 vs vs1 : List Nat} [I : PuI ti di] [A : PuG g dg sl] [sub : SubL sl vs] [T : PuT t dt] [I1 : PuIA ti1 di1] [A1 : PuG g1 dg1 sl1] [sub1 : SubL sl1 vs1] [T1 : PuT t1 dt1] [B : PuE ta da] :
    PuE (tLc2 ti g t ti1 g1 t1 ta vs vs1) (dLc2 di dg dt di1 dg1 dt1 da vs vs1) := ⟨fun S M σ δ H P Q w e h k =>
  I.run S M σ δ H _ _ w e h fun G xs S1 M1 H1 J p1 t1 w1 wk => by
    intro D0 hD
    obtain ⟨g1', p1⟩ := p1
    let Iv : Nat → Hp → Prop := fun i H' => ∃ S' M' acc ws, G M' ∧ dGather2 G dg dt di1 dg1 dt1 da vs vs1 δ P (xs.drop i) acc M' ∧ Step S1 M1 H1 S' M' H' ∧ Wo S' M' H' ∧ En S' H' σ δ ∧ S' D0 ∧ M' D0 = none ∧ H' D0 = some (.lst ws) ∧ DtA S' H' ws acc
    refine ⟨fun i m H' => i ≤ xs.length ∧ m = xs.length - i ∧ Iv i H', ⟨_, Nat.zero_le _, rfl, (fun a => S1 a ∨ a = D0), M1, [], [], g1', p1, .apart hD, w1.apart hD, (e.step w t1).step w1 (.apart hD), .inr rfl, w1.fresh hD, upd_same, .nil⟩, ?_⟩
    rintro i m H2 ⟨hi, rfl, S2, M2, acc, ws, g2, p2, t2, w2, e2, sD, mD, hL, hA⟩
    by_cases hlt : i < xs.length
    · refine .inr ⟨wk.go i S2 M2 H2 hlt t2 w2 g2, Iv (i + 1), fun H' q => ⟨_, by omega, hlt, rfl, q⟩, ?_⟩
      intro x H3 y
      obtain ⟨same, d, hd, hx⟩ := wk.yld i S2 M2 H2 x H3 hlt t2 w2 g2 y
      rw [drop_cons hd] at p2
      have t3 : Step S2 M2 H2 S2 M2 H3 := .same same
      have w3 := w2.same same
      have e3 := e2.step w2 t3
      refine A.run S2 M2 _ _ H3 x d _ _ w3 (e3.wipe vs) hx p2 fun δ4 S4 M4 σ4 H4 p4 t4 w4 e4 o4 => ⟨by rw [o4 vs sub.h, wipe_wipe], ?_⟩
      refine T.run S4 M4 σ4 δ4 H4 _ _ w4 e4 p4 fun b S5 M5 H5 p5 t5 w5 => ?_
      have t25 := (t3.trans t4).trans t5
      obtain ⟨hL5, mD5, sD5⟩ := t25.keep _ _ mD hL
      have hA5 := dtA_step w2 t25 _ hA
      cases b with
      | false =>
        rw [if_neg Bool.false_ne_true] at p5 ⊢
        exact ⟨S5, M5, acc, ws, p5.1, p5.2, t2.trans t25, w5, e2.step w2 t25, sD5.mpr sD, mD5, hL5, hA5⟩
      | true =>
        rw [if_pos rfl] at p5 ⊢
        have e45 := e4.step w4 t5
        have e25 := e2.step w2 t25
        refine I1.run S5 M5 σ4 δ4 H5 _ _ w5 e45 p5 fun ys S6 M6 H6 J1 p6 t6 w6 wk1 => ?_
        obtain ⟨hL6, mD6, sD6⟩ := t6.keep _ _ mD5 hL5
        let Iv1 : Nat → Hp → Prop := fun j H' => ∃ S' M' acc ws, dIn dg1 dt1 da vs1 δ4 (fun acc M4 => G M4 ∧ dGather2 G dg dt di1 dg1 dt1 da vs vs1 δ P (xs.drop (i + 1)) acc M4) (ys.drop j) acc M' ∧ Step S1 M1 H1 S' M' H' ∧ Wo S' M' H' ∧ En S' H' σ δ ∧ En S' H' σ4 δ4 ∧ S' D0 ∧ M' D0 = none ∧ H' D0 = some (.lst ws) ∧ DtA S' H' ws acc
        refine ⟨fun j m H' => j ≤ ys.length ∧ m = ys.length - j ∧ Iv1 j H', ⟨_, Nat.zero_le _, rfl, S6, M6, acc, ws, p6, t2.trans (t25.trans t6), w6, e25.step w5 t6, e45.step w5 t6, sD6.mpr (sD5.mpr sD), mD6, hL6, dtA_step w5 t6 _ hA5⟩, ?_⟩
        rintro j m H7 ⟨hj, rfl, S7, M7, acc7, ws7, p7, t7, w7, e7, f7, sD7, mD7, hL7, hA7⟩
        by_cases hjt : j < ys.length
        · refine .inr ⟨wk1.go j H7 hjt, Iv1 (j + 1), fun H' q => ⟨_, by omega, hjt, rfl, q⟩, ?_⟩
          intro x1 H8 y1
          obtain ⟨same1, d1, hd1, hx1⟩ := wk1.yld j H7 x1 H8 hjt y1
          rw [drop_cons hd1] at p7
          have t8 : Step S7 M7 H7 S7 M7 H8 := .same same1
          have w8 := w7.same same1
          have e8 := e7.step w7 t8
          have f8 := f7.step w7 t8
          refine A1.run S7 M7 _ _ H8 x1 d1 _ _ w8 (f8.wipe vs1) (hx1 S7) p7 fun δ9 S9 M9 σ9 H9 p9 t9 w9 e9 o9 => ⟨by rw [o9 vs1 sub1.h, wipe_wipe], ?_⟩
          refine T1.run S9 M9 σ9 δ9 H9 _ _ w9 e9 p9 fun b Sa Ma Ha pa ta' wa => ?_
          have t7a := (t8.trans t9).trans ta'
          obtain ⟨hLa, mDa, sDa⟩ := t7a.keep _ _ mD7 hL7
          have hAa := dtA_step w7 t7a _ hA7
          cases b with
          | false =>
            rw [if_neg Bool.false_ne_true] at pa ⊢
            exact ⟨Sa, Ma, acc7, ws7, pa, t7.trans t7a, wa, e7.step w7 t7a, f7.step w7 t7a, sDa.mpr sD7, mDa, hLa, hAa⟩
          | true =>
            rw [if_pos rfl] at pa ⊢
            refine B.run Sa Ma σ9 δ9 Ha _ _ wa (e9.step w9 ta') pa fun yv Sb Mb v Hb pb tb wb hb => ?_
            have t7b := t7a.trans tb
            obtain ⟨hLb, mDb, sDb⟩ := tb.keep _ _ mDa hLa
            have hAb := dtA_step wa tb _ hAa
            have sd : Sb D0 := sDb.mpr (sDa.mpr sD7)
            have ex : Ext Sb Hb (upd Hb D0 (.lst (ws7 ++ [v]))) := Ext.mut (Ext.refl _) sd
            refine ⟨ws7, hLb, by rw [hA7.length]; exact pb.1, Sb, Mb, acc7 ++ [yv], ws7 ++ [v], pb.2, step_push (t7.trans t7b) hD, wo_push wb sd mDb, en_push (e7.step w7 t7b) sd, en_push (f7.step w7 t7b) sd, sd, mDb, upd_same, (hAb.snoc hb).go ex⟩
        · have ej : j = ys.length := by omega
          subst ej
          rw [List.drop_length] at p7
          exact .inl ⟨wk1.stop H7, S7, M7, acc7, ws7, p7.1, p7.2, t7, w7, e7, sD7, mD7, hL7, hA7⟩
    · have ei : i = xs.length := by omega
      subst ei
      rw [List.drop_length] at p2
      refine .inl ⟨wk.stop S2 M2 H2 t2 w2 g2, k _ (fun a => S2 a ∧ a ≠ D0) M2 _ H2 p2 (t1.trans ⟨fun b o n hb => ?_⟩) ⟨fun a s => w2.tr a s.1, fun a mo q => ?_⟩ (.lst (fun z => z.2 rfl) hL (dtA_freeze hA))⟩
      · obtain ⟨q1, q2, q3⟩ := t2.keep b o n hb
        have c := ne_of_none hb hD
        exact ⟨q1, q2, ⟨fun z => q3.mp z.1, fun z => ⟨q3.mpr z, c⟩⟩⟩
      · obtain ⟨s, q2⟩ := w2.mem a mo q
        have c : a ≠ D0 := by rintro rfl; rw [mD] at q; cases q
        exact ⟨⟨s, c⟩, held_set (fun b n _ z => n z.1) q2⟩⟩
end V
namespace V
open PySem PySem.Spec PyProof.Rows L2 U StX
def rSortT (K : PySem.W.Frag) : List V → Hp → VK → Prop := fun vs H Q => ∃ (a : Addr) (ns : List Int), vs = [V.ref a] ∧ SqT K H a (ns.map V.int) ∧ ns.length < 64 ∧ ∀ (ns' : List Int) (p : Addr), ns'.Perm ns → ns'.Pairwise (· ≤ ·) → H p = none → Q (.ref p) (upd H p (.lst (ns'.map V.int)))
def rSortT1 : DC := fun ds M P => ∃ (ns : List Int), ds = [.tup (ns.map D.int)] ∧ ns.length < 64 ∧ ∀ ns' : List Int, ns'.Perm ns → ns'.Pairwise (· ≤ ·) → P (.lst (ns'.map D.int)) M
theorem dtA_intsV {S : Addr → Prop} {H : Hp} : ∀ {ns : List Int} {vs : List V}, DtA S H vs (ns.map D.int) → vs = ns.map V.int
  | [], _, .nil => rfl
  | _ :: _, _, .cons h t => by cases h; rw [dtA_intsV t]; rfl
theorem dtA_intsD {S : Addr → Prop} {H : Hp} : ∀ ns : List Int, DtA S H (ns.map V.int) (ns.map D.int)
  | [] => .nil
  | i :: ns => .cons (.int i) (dtA_intsD ns)
instance cb_sortT {K : PySem.W.Frag} : CbD (rSortT K) rSortT1 := ⟨fun S M H vs ds P Q w hv h k => by
  obtain ⟨ns, rfl, h64, q⟩ := h
  match vs, hv with
  | [_], .cons (.tup n ha hs) .nil =>
    rw [dtA_intsV hs] at ha
    exact ⟨_, ns, rfl, SqT.of ha, h64, fun ns' p h1 h2 hp => k _ S M _ _ (q ns' h1 h2) (.new hp) (w.new hp) (.lst (w.ns hp) upd_same (dtA_intsD ns'))⟩⟩
end V
namespace V
open PySem PySem.Spec PyProof.Rows L2 U StX
end V
namespace V
open PySem PySem.Spec PyProof.Rows L2 U StX
end V
namespace V
open PySem PySem.Spec PyProof.Rows L2 U StX
section
variable {prog : Program} {w : World} {A : Around} {E : Value → Shared → Prop} {s : Shared}
def txt (v : Value) : Str := match v with | .str z _ => z | _ => Str.empty
end
def tSortSet (K : PySem.W.Frag) (ta : TE) : TE := fun σ H Q => ta σ H fun x H1 => ∃ l ts, x = V.ref l ∧ (SqL K H1 l (ts.map V.str) ∨ SqT K H1 l (ts.map V.str)) ∧ ts.length ≤ 4000 ∧ (metS ts).length < 64 ∧
  ∀ (ys : List Str) (p : Addr), ys.Perm (metS ts) → sortedS ys = true → H1 p = none → Q (.ref p) (upd H1 p (.lst (ys.map V.str)))
def dSortSet (a : DE) : DE := fun δ M P => a δ M fun x M1 => ∃ ts : List Str, (isLs M1 x (ts.map D.str) ∨ x = .tup (ts.map D.str)) ∧ ts.length ≤ 4000 ∧ (metS ts).length < 64 ∧ ∀ ys : List Str, ys.Perm (metS ts) → sortedS ys = true → P (.lst (ys.map D.str)) M1
theorem dtA_strsD {S : Addr → Prop} {H : Hp} : ∀ ys : List Str, DtA S H (ys.map V.str) (ys.map D.str)
  | [] => .nil
  | z :: ys => .cons (.str z) (dtA_strsD ys)
instance pu_sortSet {K : PySem.W.Frag} {ta : TE} {da : DE} [A : PuE ta da] : PuE (tSortSet K ta) (dSortSet da) := ⟨fun S M σ δ H P Q w e h k =>
  A.run S M σ δ H _ _ w e h fun d S1 M1 v H1 p1 t1 w1 h1 => by
    obtain ⟨ts, h2, hn0, hn, p1⟩ := p1
    have go : ∀ (ys : List Str) (p : Addr), ys.Perm (metS ts) → sortedS ys = true → H1 p = none → Q (.ref p) (upd H1 p (.lst (ys.map V.str))) := fun ys p q1 q2 hp =>
      k _ S1 M1 _ _ (p1 ys q1 q2) (t1.trans (.new hp)) (w1.new hp) (.lst (w1.ns hp) upd_same (dtA_strsD ys))
    rcases h2 with h2 | rfl
    · obtain ⟨a, us, rfl, ha, hs⟩ := ls_get w1 h1 h2
      have eu := hs.strs_eq
      subst eu
      exact ⟨a, ts, rfl, .inl (SqL.of ha), hn0, hn, go⟩
    · cases h1 with
      | tup n ha hs =>
        have eu := hs.strs_eq
        subst eu
        exact ⟨_, ts, rfl, .inr (SqT.of ha), hn0, hn, go⟩⟩
end V
namespace V
open PySem PySem.Spec PyProof.Rows L2 U StX
/-- a and b stand for like things of class C, of which G holds -/
def Like (C : Addr) (G : D → D → Prop) (a b : Addr) (H : Hp) : Prop := ∃ n1 x1 n2 x2, Dt N0 H (.ref a) (.ins C n1 x1) ∧ Dt N0 H (.ref b) (.ins C n2 x2) ∧ G (.ins C n1 x1) (.ins C n2 x2)
section
variable {X : Cx} {n : Nat} {f C : Addr} {fd : FuncData} {ps : List Str} {sp : DC} {G : D → D → Prop}
def EqRow (K : PySem.W.Frag) (C : Addr) (G : D → D → Prop) : L2.Eqv := fun x y H => L2.DList (L2.DIns C (Like C G)) x y H ∨ L2.DTup K (L2.DIns C (Like C G)) x y H
end
def rEqRowD (C : Addr) (G : D → D → Prop) : DR := fun x y M P => ∃ xs ys : List D, ((x = .lst xs ∧ y = .lst ys) ∨ (x = .tup xs ∧ y = .tup ys)) ∧ xs.length = ys.length ∧ (∀ (i : Nat) d e, xs[i]? = some d → ys[i]? = some e → (∃ n1 x1 n2 x2, d = .ins C n1 x1 ∧ e = .ins C n2 x2) ∧ G d e) ∧ P (.bl true) M
theorem dtA_at {S : Addr → Prop} {H : Hp} : ∀ {vs : List V} {ds : List D}, DtA S H vs ds → ∀ {i : Nat} {v : V}, vs[i]? = some v → ∃ d, ds[i]? = some d ∧ Dt S H v d
  | _, _, .cons h t, 0, v, e => ⟨_, rfl, by cases e; exact h⟩
  | _, _, .cons h t, i + 1, v, e => dtA_at t (i := i) e
  | _, _, .nil, _, _, e => by simp at e
theorem prs_of {C : Addr} {G : D → D → Prop} {S : Addr → Prop} {H : Hp} {vs us : List V} {xs ys : List D} (h1 : DtA S H vs xs) (h2 : DtA S H us ys) (hl : xs.length = ys.length)
    (q : ∀ (i : Nat) d e, xs[i]? = some d → ys[i]? = some e → (∃ n1 x1 n2 x2, d = .ins C n1 x1 ∧ e = .ins C n2 x2) ∧ G d e) : L2.Prs (L2.DIns C (Like C G)) vs us H := by
  refine ⟨by rw [h1.length, h2.length, hl], fun i x y hx hy => ?_⟩
  obtain ⟨d, hd, k1⟩ := dtA_at h1 hx
  obtain ⟨e, he, k2⟩ := dtA_at h2 hy
  obtain ⟨⟨n1, x1, n2, x2, rfl, rfl⟩, g⟩ := q i d e hd he
  have m1 := Dt.set (S' := N0) (fun _ _ _ z => z) _ k1
  have m2 := Dt.set (S' := N0) (fun _ _ _ z => z) _ k2
  cases k1 with
  | ins _ ha _ _ => cases k2 with
    | ins _ hb _ _ => exact ⟨_, _, _, _, _, _, rfl, rfl, ha, hb, n1, x1, n2, x2, m1, m2, g⟩
instance op_eqRowD {K : PySem.W.Frag} {C : Addr} {G : D → D → Prop} : OpD (L2.rEqG (EqRow K C G)) (rEqRowD C G) := ⟨fun S M H x y dx dy P Q w hx hy h k => by
  obtain ⟨xs, ys, c, hl, q, p⟩ := h
  refine ⟨?_, fun H' e => k _ S M _ H' p (.same e) (w.same e) (.bl _)⟩
  rcases c with ⟨rfl, rfl⟩ | ⟨rfl, rfl⟩
  · cases hx with
    | lst _ ha hs => cases hy with
      | lst _ hb ht => exact .inl ⟨_, _, _, _, rfl, rfl, ha, hb, prs_of hs ht hl q⟩
  · cases hx with
    | tup _ ha hs => cases hy with
      | tup _ hb ht => exact .inr ⟨_, _, _, _, rfl, rfl, SqT.of ha, SqT.of hb, prs_of hs ht hl q⟩⟩
end V
namespace V
open PySem PySem.Spec PyProof.Rows L2 U StX
section
variable {X : Cx}
/-- t.index(x), all ints or all texts: the first place -/
def rTIdx (K : PySem.W.Frag) : V → List V → Hp → VK → Prop := fun x xs H Q => ∃ p j, x = .ref p ∧ ((∃ (ys : List Str) (z : Str), xs = [.str z] ∧ SqT K H p (ys.map V.str) ∧ ys[j]? = some z ∧ (∀ m, m < j → ys[m]? ≠ some z)) ∨
  ∃ (ys : List Int) (z : Int), xs = [.int z] ∧ SqT K H p (ys.map V.int) ∧ ys[j]? = some z ∧ (∀ m, m < j → ys[m]? ≠ some z)) ∧ Q (.int (j : Nat)) H
end
/-- t.index(x), t such a tuple -/
def tTIdx (K : PySem.W.Frag) (to : TE) (t : TA) : TE := fun σ H Q => to σ H fun x H1 => (∃ p o xs, x = .ref p ∧ H1 p = some (.frz o (.tup xs)) ∧ o.dict = none) ∧ t σ H1 fun xs H2 => rTIdx K x xs H2 Q
section
variable {X : Cx} {o e : Expr} {es : List Expr} {to : TE} {t : TA} {apos cpos : Pos}
/-- (.., ..), a tuple known to have no dict -/
def tTupF (t : TA) : TE := fun σ H Q => t σ H fun xs H1 => xs.length ≤ sizeLine ∧ ∀ p o, H1 p = none → o.dict = none → Q (.ref p) (upd H1 p (.frz o (.tup xs)))
/-- tuple(xs), xs a list: a tuple known to have no dict -/
def kTupF (K : PySem.W.Frag) (x : V) (H : Hp) (Q : VK) : Prop := ∃ p xs, x = .ref p ∧ SqL K H p xs ∧ ∀ q o, H q = none → o.dict = none → Q (.ref q) (upd H q (.frz o (.tup xs)))
end
/-- x.index(y) -/
def idxAt (xs ds : List D) (j : Nat) : Prop := (∃ (ys : List Str) (z : Str), ds = [.str z] ∧ xs = ys.map D.str ∧ ys[j]? = some z ∧ (∀ m, m < j → ys[m]? ≠ some z)) ∨
  ∃ (ys : List Int) (z : Int), ds = [.int z] ∧ xs = ys.map D.int ∧ ys[j]? = some z ∧ (∀ m, m < j → ys[m]? ≠ some z)
def dTIdx (a : DE) (b : DA) : DE := fun δ M P => a δ M fun x M1 => ∃ xs, x = .ftp xs ∧ b δ M1 fun ds M2 => ∃ j, idxAt xs ds j ∧ P (.int (j : Nat)) M2
instance pu_tidx {K : PySem.W.Frag} {ta : TE} {tb : TA} {da : DE} {db : DA} [A : PuE ta da] [B : PuA tb db] : PuE (tTIdx K ta tb) (dTIdx da db) := ⟨fun S M σ δ H P Q w e h k =>
  A.run S M σ δ H _ _ w e h fun d S1 M1 v H1 p1 t1 w1 h1 => by
    obtain ⟨xs, rfl, p1⟩ := p1
    have h1' := h1
    cases h1 with
    | @ftp a ob vs _ n ha hd hs =>
      refine ⟨⟨a, ob, vs, rfl, ha, hd⟩, B.run S1 M1 σ δ H1 _ _ w1 (e.step w t1) p1 fun d2 S2 M2 v2 H2 p2 t2 w2 h2 => ?_⟩
      obtain ⟨j, p2, q⟩ := p2
      have h3 := dt_step w1 t2 _ h1'
      cases h3 with
      | @ftp _ o3 us _ n3 ha3 hd3 hs3 =>
        rcases p2 with ⟨ys, z, rfl, rfl, hy, hno⟩ | ⟨ys, z, rfl, rfl, hy, hno⟩
        · have eu := hs3.strs_eq
          subst eu
          match v2, h2 with
          | [_], .cons (.str _) .nil => exact ⟨a, j, rfl, .inl ⟨ys, z, rfl, Or.inl (Or.inr ⟨_, ha3⟩), hy, hno⟩, k _ S2 M2 _ H2 q (t1.trans t2) w2 (.int _)⟩
        · have eu := hs3.ints_eq
          subst eu
          match v2, h2 with
          | [_], .cons (.int _) .nil => exact ⟨a, j, rfl, .inr ⟨ys, z, rfl, Or.inl (Or.inr ⟨_, ha3⟩), hy, hno⟩, k _ S2 M2 _ H2 q (t1.trans t2) w2 (.int _)⟩⟩
def dTupF (t : DA) : DE := fun δ M P => t δ M fun xs M1 => xs.length ≤ sizeLine ∧ P (.ftp xs) M1
instance pu_tupF {t : TA} {dt : DA} [A : PuA t dt] : PuE (tTupF t) (dTupF dt) := ⟨fun S M σ δ H P Q w e h k =>
  A.run S M σ δ H _ _ w e h fun d S1 M1 v H1 p1 t1 w1 h1 => ⟨by rw [h1.length]; exact p1.1, fun p o np hd =>
    k _ S1 M1 _ _ p1.2 (t1.trans (.new np)) (w1.new np) (.ftp (w1.ns np) upd_same hd (h1.sm (Same.new np)))⟩⟩
theorem x_tupF {t : DA} {δ : Dl} {M : Mem} {P : QD} (h : t δ M fun xs M1 => xs.length ≤ sizeLine ∧ P (.ftp xs) M1) : dTupF t δ M P := h
def kTupF1 (x : D) (M : Mem) (P : QD) : Prop := ∃ xs, isLs M x xs ∧ P (.ftp xs) M
instance pu_tupOfF {K : PySem.W.Frag} {ta : TE} {da : DE} [A : PuE ta da] : PuE (tThen ta (kTupF K)) (dThen da kTupF1) := ⟨fun S M σ δ H P Q w e h k =>
  A.run S M σ δ H _ _ w e h fun d S1 M1 v H1 p1 t1 w1 h1 => by
    obtain ⟨xs, h2, p1⟩ := p1
    obtain ⟨a, us, rfl, ha, hs⟩ := ls_get w1 h1 h2
    exact ⟨a, us, rfl, SqL.of ha, fun p o np hd => k _ S1 M1 _ _ p1 (t1.trans (.new np)) (w1.new np) (.ftp (w1.ns np) upd_same hd (hs.sm (Same.new np)))⟩⟩
theorem x_tfL {xs : List D} {M : Mem} {P : QD} (p : P (.ftp xs) M) : kTupF1 (.lst xs) M P := ⟨xs, .inl rfl, p⟩
def dPopAt (a : DE) (b : DA) : DE := fun δ M P => a δ M fun x M1 => ∃ l, x = .ptr l ∧ (∃ xs, M1 l = some (.lst xs)) ∧ b δ M1 fun ys M2 => ∃ xs i d, ys = [.int (i : Nat)] ∧ M2 l = some (.lst xs) ∧ i < 1000000 ∧ xs[i]? = some d ∧ P d (mset M2 l (.lst (xs.eraseIdx i)))
theorem dtA_erase {S : Addr → Prop} {H : Hp} : ∀ {vs : List V} {ds : List D} (i : Nat), DtA S H vs ds → DtA S H (vs.eraseIdx i) (ds.eraseIdx i)
  | [], [], _, .nil => .nil
  | _ :: _, _ :: _, 0, .cons _ t => t
  | _ :: _, _ :: _, i + 1, .cons h t => .cons h (dtA_erase i t)
theorem seqIx_nat {i n : Nat} (h : i < n) : seqIndex? ((i : Nat) : Int) n = some i := by
  unfold seqIndex?
  simp only [show ¬ (((i : Nat) : Int) < 0) by omega, if_false]
  simp [show ((i : Nat) : Int) < (n : Nat) by omega]
instance pu_popAt {K : PySem.W.Frag} {ta : TE} {tb : TA} {da : DE} {db : DA} [A : PuE ta da] [B : PuA tb db] : PuE (tBM K "list" rPopAt ta tb) (dPopAt da db) := ⟨fun S M σ δ H P Q w e h k =>
  A.run S M σ δ H _ _ w e h fun d S1 M1 v H1 p1 t1 w1 h1 => by
    obtain ⟨l, rfl, ⟨xs, hx⟩, p1⟩ := p1
    cases h1
    obtain ⟨_, vs, ha, hs⟩ := w1.mem l _ hx
    refine ⟨.inl ⟨rfl, _, SqL.of ha⟩, B.run S1 M1 σ δ H1 _ _ w1 (e.step w t1) p1 fun d2 S2 M2 v2 H2 p2 t2 w2 h2 => ?_⟩
    obtain ⟨xs, i, y, rfl, hm, hlt, hy, p2⟩ := p2
    obtain ⟨sl, vs, ha, hs⟩ := w2.mem l _ hm
    match v2, h2 with
    | [_], .cons (.int _) .nil =>
      have ex : Ext S2 H2 (upd H2 l (.lst (vs.eraseIdx i))) := Ext.mut (Ext.refl _) sl
      obtain ⟨u, hu, hd⟩ := hs.get hy
      have hvi : i < vs.length := (List.getElem?_eq_some_iff.mp hu).1
      exact ⟨l, vs, _, i, u, rfl, rfl, ha, by omega, by omega, seqIx_nat hvi, hu, k _ _ _ _ _ p2 ((t1.trans t2).trans (.change hm)) (w2.change hm ⟨_, upd_same, (dtA_erase i hs).go ex⟩) (hd.go ex)⟩⟩
def tLstRgM (t : TR) : TE := tLstRg t
def dLstRgM (t : DRg) : DE := fun δ M P => t δ M fun a b M1 => RgOk a b ∧ ∀ q, M1 q = none → P (.ptr q) (mset M1 q (.lst (rgD a b)))
instance pu_lstRgM {t : TR} {dt : DRg} [A : PuRg t dt] : PuE (tLstRgM t) (dLstRgM dt) := ⟨fun S M σ δ H P Q w e h k =>
  A.run S M σ δ H _ _ w e h fun i j S1 M1 H1 p1 t1 w1 => ⟨p1.1, fun p np => k _ _ _ _ _ (p1.2 p (w1.fresh np)) (t1.trans (Step.mutable w1 np)) (w1.mutable np ⟨_, upd_same, (DtA.set (fun b n k z => z.elim n fun q => k (by rw [q]; exact np)) _ (dt_rgD (S := S1) (H := H1) i j)).sm (Same.new np)⟩) (.ptr p)⟩⟩
theorem x_lstRgM {t : DRg} {δ : Dl} {M : Mem} {P : QD} (h : t δ M fun a b M1 => RgOk a b ∧ ∀ q, M1 q = none → P (.ptr q) (mset M1 q (.lst (rgD a b)))) : dLstRgM t δ M P := h
end V
namespace V
open PySem PySem.Spec PyProof.Rows L2 U StX
end V
namespace V
open PySem PySem.Spec PyProof.Rows L2 U StX
/-- what is wished of an exception: its class, its fields -/
abbrev QX := Addr → List (Str × D) → Mem → Prop
def AtX (S : Addr → Prop) (M : Mem) (H : Hp) (q : QX) (E : XK) : Prop := ∀ C fs S' M' d H', q C fs M' → Step S M H S' M' H' → Wo S' M' H' → XF S' H' d fs → E (.ref C) d H'
theorem AtX.go {S S' : Addr → Prop} {M M' : Mem} {H H' : Hp} {q : QX} {E : XK} (a : AtX S M H q E) (t : Step S M H S' M' H') : AtX S' M' H' q E := fun C fs S2 M2 d H2 p t2 w2 x => a C fs S2 M2 d H2 p (t.trans t2) w2 x
abbrev DCX := List D → Mem → QD → QX → Prop
def liftX (sp : DCX) : Sp := fun vs H Q E => ∃ S M ds P q, Wo S M H ∧ DtA S H vs ds ∧ sp ds M P q ∧ AtE S M H P Q ∧ AtX S M H q E
class PuXE (E : XK) (t : TE) (dt : outParam (QX → DE)) : Prop where
  run : ∀ S M σ δ H P q Q, Wo S M H → En S H σ δ → dt q δ M P → AtE S M H P Q → AtX S M H q E → t σ H Q
class PuXS (E : XK) (t : TS) (dt : outParam (QX → DS)) : Prop where
  run : ∀ S M σ δ H nx rt bk ct (D : Ends) q, Wo S M H → En S H σ δ → dt q nx rt bk ct δ M → Lk S M H nx rt bk ct D → AtX S M H q E → t D σ H
abbrev sSeqX (a b : QX → DS) : QX → DS := fun q => sSeq (a q) (b q)
abbrev sDropX (a : QX → DE) : QX → DS := fun q => sDrop (a q)
abbrev sRetX (a : QX → DE) : QX → DS := fun q => sRet (a q)
abbrev sIfX (c : DT) (a b : QX → DS) : QX → DS := fun q => sIf c (a q) (b q)
abbrev sAsgX (a : QX → DE) (g : DG) : QX → DS := fun q => sAsg (a q) g
abbrev sForX (i : DI) (g : DG) (a : QX → DS) : QX → DS := fun q => sFor i g (a q)
section
variable {E : XK} {ta : TE} {da : DE} {t u : TS} {dt du : QX → DS} {dtp : DS} {dx : QX → DE}
instance (priority := low) pux_liftE [A : PuE ta da] : PuXE E ta (fun _ => da) := ⟨fun S M σ δ H P q Q w e h k _ => A.run S M σ δ H P Q w e h k⟩
instance (priority := low) pux_liftS [A : PuS t dtp] : PuXS E t (fun _ => dtp) := ⟨fun S M σ δ H nx rt bk ct D q w e h l _ => A.run S M σ δ H nx rt bk ct D w e h l⟩
instance pux_seq [A : PuXS E t dt] [B : PuXS E u du] : PuXS E (tSeq t u) (sSeqX dt du) := ⟨fun S M σ δ H nx rt bk ct D q w e h l x =>
  A.run S M σ δ H _ _ _ _ _ q w e h ⟨fun δ1 S1 M1 σ1 H1 p1 t1 w1 e1 => B.run S1 M1 σ1 δ1 H1 nx rt bk ct D q w1 e1 p1 (l.go t1) (x.go t1), l.rt, l.bk, l.ct⟩ x⟩
instance pux_drop [A : PuXE E ta dx] : PuXS E (tDrop ta) (sDropX dx) := ⟨fun S M σ δ H nx rt bk ct D q w e h l x =>
  A.run S M σ δ H _ q _ w e h (fun d S1 M1 v H1 p1 t1 w1 h1 => l.nx _ S1 M1 _ H1 p1 t1 w1 (e.step w t1)) x⟩
instance pux_ret [A : PuXE E ta dx] : PuXS E (tRet ta) (sRetX dx) := ⟨fun S M σ δ H nx rt bk ct D q w e h l x => A.run S M σ δ H _ q _ w e h l.rt x⟩
instance pux_ifS {c : TT} {dc : DT} [C : PuT c dc] [A : PuXS E t dt] [B : PuXS E u du] : PuXS E (tIfS c t u) (sIfX dc dt du) := ⟨fun S M σ δ H nx rt bk ct D q w e h l x =>
  C.run S M σ δ H _ _ w e h fun b S1 M1 H1 p1 t1 w1 => by
    cases b with
    | true =>
      rw [if_pos rfl] at p1 ⊢
      exact A.run S1 M1 σ δ H1 nx rt bk ct D q w1 (e.step w t1) p1 (l.go t1) (x.go t1)
    | false =>
      rw [if_neg Bool.false_ne_true] at p1 ⊢
      exact B.run S1 M1 σ δ H1 nx rt bk ct D q w1 (e.step w t1) p1 (l.go t1) (x.go t1)⟩
instance pux_asg {g : TG} {dg : DG} {sl : List Nat} [A : PuXE E ta dx] [B : PuG g dg sl] : PuXS E (tAsg ta g) (sAsgX dx dg) := ⟨fun S M σ δ H nx rt bk ct D q w e h l x =>
  A.run S M σ δ H _ q _ w e h (fun d S1 M1 v H1 p1 t1 w1 h1 =>
    B.run S1 M1 σ δ H1 v d _ _ w1 (e.step w t1) h1 p1 fun δ2 S2 M2 σ2 H2 p2 t2 w2 e2 _ => l.nx δ2 S2 M2 σ2 H2 p2 (t1.trans t2) w2 e2) x⟩
instance pux_for {ti : TI} {g : TG} {di : DI} {dg : DG} {sl : List Nat} [I : PuI ti di] [A : PuG g dg sl] [B : PuXS E t dt] : PuXS E (tFor ti g t) (sForX di dg dt) := ⟨fun S M σ δ H nx rt bk ct D q w e h l xx =>
  I.run S M σ δ H _ _ w e h fun G xs S1 M1 H1 J p1 t1 w1 wk => by
    refine ⟨fun i m σ' H' => i ≤ xs.length ∧ m = xs.length - i ∧ ∃ S' M' δ', G M' ∧ dLoop G dg (dt q) nx rt (xs.drop i) δ' M' ∧ Step S1 M1 H1 S' M' H' ∧ Wo S' M' H' ∧ En S' H' σ' δ', ⟨_, Nat.zero_le _, rfl, S1, M1, δ, p1.1, p1.2, .refl, w1, e.step w t1⟩, ?_⟩
    rintro i m σ2 H2 ⟨hi, rfl, S2, M2, δ2, g2, p2, t2, w2, e2⟩
    by_cases hlt : i < xs.length
    · refine .inr ⟨wk.go i S2 M2 H2 hlt t2 w2 g2, fun σ' H' => ∃ S' M' δ', G M' ∧ dLoop G dg (dt q) nx rt (xs.drop (i + 1)) δ' M' ∧ Step S1 M1 H1 S' M' H' ∧ Wo S' M' H' ∧ En S' H' σ' δ', ?_, ?_⟩
      · rintro σ' H' q
        exact ⟨_, by omega, hlt, rfl, q⟩
      · intro x H3 y
        obtain ⟨same, d, hd, hx⟩ := wk.yld i S2 M2 H2 x H3 hlt t2 w2 g2 y
        rw [drop_cons hd] at p2
        have t3 : Step S2 M2 H2 S2 M2 H3 := .same same
        have w3 := w2.same same
        refine A.run S2 M2 σ2 δ2 H3 x d _ _ w3 (e2.step w2 t3) hx p2 fun δ4 S4 M4 σ4 H4 p4 t4 w4 e4 _ => ?_
        have t14 := (t2.trans t3).trans t4
        refine B.run S4 M4 σ4 δ4 H4 _ _ _ _ _ q w4 e4 p4 ⟨?_, l.rt.go (t1.trans t14), fun a b c d e p t5 w f => l.nx a b c d e p ((t1.trans t14).trans t5) w f, ?_⟩ (xx.go (t1.trans t14))
        · rintro δ5 S5 M5 σ5 H5 ⟨g5, p5⟩ t5 w5 e5
          exact ⟨S5, M5, δ5, g5, p5, t14.trans t5, w5, e5⟩
        · rintro δ5 S5 M5 σ5 H5 ⟨g5, p5⟩ t5 w5 e5
          exact ⟨S5, M5, δ5, g5, p5, t14.trans t5, w5, e5⟩
    · have ei : i = xs.length := by omega
      subst ei
      rw [List.drop_length] at p2
      exact .inl ⟨wk.stop S2 M2 H2 t2 w2 g2, l.nx _ S2 M2 _ H2 p2 (t1.trans t2) w2 e2⟩⟩
end
def dCallX (sp : DCX) (q : QX) (t : DA) : DE := fun δ M P => t δ M fun ds M1 => sp ds M1 P q
def dCallNX (n m : Nat) (sp : DCX) (g : List D → List D → List D) (q : QX) (t tk : DA) : DE := fun δ M P => t δ M fun ds M1 => tk δ M1 fun es M2 => ds.length = n ∧ es.length = m ∧ sp (g ds es) M2 P q
/-- .. made in C(..), where it fails nothing of it is left -/
def rMakeFX (C : Addr) (sp : DCX) (q : QX) : DC := fun ds M P => ∀ x, M x = none → sp (.ptr x :: ds) (mset M x (.ins C [])) (fun d M2 => d = .non ∧ ∃ fs, M2 x = some (.ins C fs) ∧ P (.ins C (fs.map (·.1)) (fs.map (·.2))) (mdel M2 x)) fun C' fs M2 => ∃ M0, Mle M0 M2 ∧ q C' fs M0
def liftXF (sp : DCX) : Sp := liftX sp
section
variable {E : XK} {t tk : TA} {dt dk : DA} {sp : DCX} {C : Addr}
instance pux_call [A : PuA t dt] : PuXE E (tCall (liftX sp) [] E t) (fun q => dCallX sp q dt) := ⟨fun S M σ δ H P q Q w e h k x =>
  A.run S M σ δ H _ _ w e h fun ds S1 M1 vs H1 p1 t1 w1 h1 => by
    rw [List.append_nil]
    exact ⟨S1, M1, ds, P, q, w1, h1, p1, k.go t1, x.go t1⟩⟩
instance pux_callN {n l : Nat} {gV : List V → List V → List V} {gD : List D → List D → List D} [A : PuA t dt] [B : PuA tk dk] [G : RelG gV gD] : PuXE E (tCallN n l (liftX sp) gV E t tk) (fun q => dCallNX n l sp gD q dt dk) := ⟨fun S M σ δ H P q Q w e h k x =>
  A.run S M σ δ H _ _ w e h fun ds S1 M1 vs H1 p1 t1 w1 h1 =>
    B.run S1 M1 σ δ H1 _ _ w1 (e.step w t1) p1 fun es S2 M2 zs H2 p2 t2 w2 h2 => by
      obtain ⟨l1, l2, p2⟩ := p2
      exact ⟨by rw [h1.length]; exact l1, by rw [h2.length]; exact l2, S2, M2, _, P, q, w2, G.run S2 H2 _ _ _ _ (dtA_step w1 t2 _ h1) h2, p2, k.go (t1.trans t2), x.go (t1.trans t2)⟩⟩
theorem AtX.left {S S1 : Addr → Prop} {M M1 : Mem} {H H1 : Hp} {q : QX} (x : AtX S M H q E) (t : Step S M H S1 M1 H1) : AtX S1 M1 H1 (fun C fs M2 => ∃ M0, Mle M0 M2 ∧ q C fs M0) E := fun C fs S2 M2 d H2 p t2 w2 xf => by
  obtain ⟨M0, l, p⟩ := p
  refine x C fs S2 M0 d H2 p ⟨fun b o e1 e2 => ?_⟩ (w2.drop l) xf
  obtain ⟨h1, h2, h3⟩ := (t.trans t2).keep b o e1 e2
  refine ⟨h1, ?_, h3⟩
  cases e : M0 b with
  | none => rfl
  | some mo => rw [l b mo e] at h2; cases h2
theorem makeFX_go {S : Addr → Prop} {M : Mem} {H : Hp} {P : QD} {q : QX} {Q : VK} {vs : List V} {ds : List D} {x dx : Addr} (w : Wo S M H) (h : DtA S H vs ds) (p : rMakeFX C sp q ds M P) (k : AtE S M H P Q) (xx : AtX S M H q E) (nx : H x = none) (nd : H dx = none) (ne : dx ≠ x) :
    liftXF sp (.ref x :: vs) (upd (upd H dx (.own x)) x (.ins C dx [])) (fun v H2 => v = .non ∧ Q (.ref x) H2) E := by
  obtain ⟨w1, t1⟩ := new_ins (C := C) w nx nd ne
  refine ⟨_, _, _, _, _, w1, .cons (.ptr x) (dtA_step w t1 _ h), p x (w.fresh nx), fun d S2 M2 v H2 q t2 w2 hv => ?_, xx.left t1⟩
  obtain ⟨rfl, fs, hm, q⟩ := q
  cases hv
  obtain ⟨sx, dx', gs, ha, hn, hs⟩ := w2.mem x _ hm
  have t3 := (t1.trans t2).trans (Step.freeze (S := S2) (H := H2) hm)
  exact ⟨rfl, k _ _ _ _ H2 q t3 w2.freeze (.ins (fun z => z.2 rfl) ha hn (dtA_freeze hs))⟩
instance pux_makeF [A : PuA t dt] : PuXE E (tMake C (liftXF sp) [] E t) (fun q => dCB (rMakeFX C sp q) dt) := ⟨fun S M σ δ H P q Q w e h k xx =>
  A.run S M σ δ H _ _ w e h fun ds S1 M1 vs H1 p1 t1 w1 h1 x dx nx nd ne => by
    rw [List.append_nil]
    exact makeFX_go w1 h1 p1 (k.go t1) (xx.go t1) nx nd ne⟩
instance pux_makeF3210 {n : Nat} [B : PuA tk dk] : PuXE E (tMakeK C 0 n (liftXF sp) (fun us ws => us ++ pk3_2_1_0 ws) E tNil tk) (fun q => dMakeK (rMakeFX C sp q) d3210 n dk) := ⟨fun S M σ δ H P q Q w e h k xx =>
  B.run S M σ δ H _ _ w e h fun es S2 M2 zs H2 p2 t2 w2 h2 => ⟨rfl, by rw [h2.length]; exact p2.1, fun x dx nx nd ne => makeFX_go w2 (pk3_2_1_0_dt h2) p2.2 (k.go t2) (xx.go t2) nx nd ne⟩⟩
instance pux_makeF10 {n : Nat} [B : PuA tk dk] : PuXE E (tMakeK C 0 n (liftXF sp) (fun us ws => us ++ pk1_0 ws) E tNil tk) (fun q => dMakeK (rMakeFX C sp q) d10 n dk) := ⟨fun S M σ δ H P q Q w e h k xx =>
  B.run S M σ δ H _ _ w e h fun es S2 M2 zs H2 p2 t2 w2 h2 => ⟨rfl, by rw [h2.length]; exact p2.1, fun x dx nx nd ne => makeFX_go w2 (pk1_0_dt h2) p2.2 (k.go t2) (xx.go t2) nx nd ne⟩⟩
end
section
variable {X : Cx} {k : Nat} {f C : Addr} {fd : FuncData} {ps ks : List Str} {sp : Sp} {x : Str} {p pos : Pos} {e : Expr} {es : List Expr} {t tk : TA} {kws : List Keyword} {E : XK}
theorem passX (tk : Takes X fun cls d _ H => E cls d H) : Passes (L2.CX X.prog X.w) X E := passes_call tk fun _ _ _ _ h => h
end
/-- the own __init__ of an exception with one field -/
def spExI (C : Addr) (f : Str) : Sp := fun vs H Q _ => ∃ (a : Addr) (y : V), vs = [.ref a, y] ∧ H a = some (exo a C none) ∧ ∀ dx, H dx = none → dx ≠ a → Q .non (upd (upd H dx (exd dx [(f, y)])) a (exo a C (some dx)))
/-- raise C(e) -/
def tRaiseX (E : XK) (C : Addr) (f : Str) (te : TE) : TS := fun _ σ H => tMkO C (spExI C f) [] (tCons te tNil) σ H E
theorem upd_back {H : Hp} {a d : Addr} {o1 o2 o3 o4 : HO} (n : H a = none) (nd : d ≠ a) : upd (del (upd (upd (upd H a o1) d o2) a o3) a) d o4 = upd H d o4 := by
  funext b
  by_cases h1 : b = d
  · rw [h1, upd_same, upd_same]
  · rw [upd_ne h1, upd_ne h1]
    by_cases h2 : b = a
    · rw [h2, del_same, n]
    · rw [del_ne h2, upd_ne h2, upd_ne h1, upd_ne h2]
section
variable {X : Cx} {E : XK} {C fI : Addr} {k : Nat} {fd : FuncData} {ps : List Str} {f x : Str} {e : Expr} {te : TE} {p pos pos' : Pos}
theorem ps_raiseX (T : OexC X.K C) (iC : PySem.W.findIn X.K (.ref C) "__init__" = some (some (.ref fI))) (tI : PySem.W.typeIn X.K (.ref fI) = some (.type "function"))
    (F : FnOk X.prog X.w X.K X.mg X.base L2.CX0 k fI fd ps (spExI C f)) (hr : Room (k + 1) X.A) (hb : Binds X.K fd ps []) (hg : Gl X x) (hm : X.mg x = some (.ref C)) (hc : X.calm = true) (tk : Takes X fun cls d _ H => E cls d H) (he : PE X e te)
    (hdb : (x == ("__debug__" : Str)) = false := by decide) (hs : starEach (e :: []) X.env = (false, eval e X.env) :: starEach [] X.env := by rfl) (hpl : (backTo pos (starEach [] X.env)).any (·.1) = false := by rfl) :
    PS X (.Raise (some (.Call (.Name x p) [e] [] pos)) none pos') (tRaiseX E C f te) :=
  ps_raise hc tk (pmk_oex (dvs := []) (ds := []) T iC tI F hr hb .nil (fun _ _ _ _ _ _ _ h => h.elim) hg hm (pa_cons he pa_nil hs) (p := p) (pos := pos) hdb hs hpl)
end
def sRaiseX (C : Addr) (f : Str) (q : QX) (a : DE) : DS := fun _ _ _ _ δ M => a δ M fun y M1 => q C [(f, y)] M1
instance pux_raise {E : XK} {C : Addr} {f : Str} {te : TE} {da : DE} [A : PuE te da] : PuXS E (tRaiseX E C f te) (fun q => sRaiseX C f q da) := ⟨fun S M σ δ H nx rt bk ct D q w e h l x =>
  A.run S M σ δ H _ _ w e h fun d S1 M1 v H1 p1 t1 w1 h1 => by
    refine ⟨by simp, fun a na => ⟨a, v, rfl, upd_same, fun dx nd ne => ?_⟩⟩
    have nd1 : H1 dx = none := by rw [upd_ne ne] at nd; exact nd
    refine ⟨rfl, dx, [(f, v)], upd_same, by rw [upd_ne ne, upd_same], nd1, ?_⟩
    rw [upd_back na ne]
    exact x C [(f, d)] S1 M1 (some dx) _ p1 (t1.trans (.new nd1)) (w1.new nd1) (.inr ⟨dx, _, rfl, w1.ns nd1, upd_same, rfl, .cons (h1.sm (Same.new nd1)) .nil⟩)⟩
section
variable {P : Program} {w : World} {K : PySem.W.Frag} {mg : Str → Option Value} {base : Heap} {x qual : Str} {st : Stmt} {f : Addr} {fd : FuncData} {N ps : List Str} {k : Nat} {sp : DCX}
theorem liftXLen (len : ∀ ds M P q, sp ds M P q → ds.length = ps.length) : ∀ vs H Q E, liftX sp vs H Q E → vs.length = ps.length := fun vs H Q E ⟨S, M, ds, P, q, _, h, p, _⟩ => by rw [h.length]; exact len ds M P q p
theorem fnX (F : L2.Fun K x qual st f fd) (S : FnScope N ps (L2.defScope st)) (len : ∀ ds M P q, sp ds M P q → ds.length = ps.length)
    (hb : ∀ (cdv : Value) (A : Around) (outer : List Env) (s : Shared) (H : Hp) (E : XK), Room k (A.deeper (envOfC qual (L2.defScope st) s.heap.objs.size f cdv)) →
      Takes (cxOf (L2.CX P w) P w K mg base N qual (L2.defScope st) f cdv A outer s H E) (fun cls d _ H => E cls d H) →
      PassesOwn (model P w) (cxOf (L2.CX P w) P w K mg base N qual (L2.defScope st) f cdv A outer s H E).A (cxOf (L2.CX P w) P w K mg base N qual (L2.defScope st) f cdv A outer s H E).env (cxOf (L2.CX P w) P w K mg base N qual (L2.defScope st) f cdv A outer s H E).xe →
      ∃ t, PSs (cxOf (L2.CX P w) P w K mg base N qual (L2.defScope st) f cdv A outer s H E) (L2.defBody st) t ∧ ∃ dt, PuXS E t dt ∧ ∀ ds M P q, sp ds M P q → dt q (fun _ M' => P .non M') P (fun _ _ => False) (fun _ _ => False) (startD N ds) M) :
    FnOk P w K mg base (L2.CX P w) (k + 1) f fd ps (liftX sp) :=
  F.okX S (liftXLen len) fun cdv A outer s H vs Q E hr h => by
    obtain ⟨t, ht, dt, AA, go⟩ := hb cdv A outer s H E hr (takes_of rfl rfl rfl rfl) PassesOwn.leaving
    obtain ⟨S, M, ds, P, q, w, h, p, k, kx⟩ := h
    exact ⟨t, ht, AA.run S M _ _ H _ _ _ _ _ q w (en_start N h) (go ds M P q p) ⟨fun δ' S' M' σ' H' q t w e => k _ S' M' _ H' q t w .non, k, fun _ _ _ _ _ q => q.elim, fun _ _ _ _ _ q => q.elim⟩ kx⟩
end
section
variable {δ : Dl} {M : Mem} {P : QD} {a : DE} {t tk : DA} {nx bk ct : QS} {rt : QD} {q : QX}
theorem x_callX {sp : DCX} (h : t δ M fun ds M1 => sp ds M1 P q) : dCallX sp q t δ M P := h
theorem x_callNX {n m : Nat} {sp : DCX} {f : List D → List D → List D} (h : t δ M fun ds M1 => tk δ M1 fun es M2 => ds.length = n ∧ es.length = m ∧ sp (f ds es) M2 P q) : dCallNX n m sp f q t tk δ M P := h
theorem x_raiseX {C : Addr} {f : Str} (h : a δ M fun y M1 => q C [(f, y)] M1) : sRaiseX C f q a nx rt bk ct δ M := h
end
end V
namespace V
open PySem PySem.Spec PyProof.Rows L2 U StX
/-- the rows of an _law_ended: class, word, attribute -/
abbrev ERow := Addr × Str × Str
end V
namespace V
open PySem PySem.Spec PyProof.Rows L2 U StX
/-- what is told of an error: the row of its class -/
def endX (rows : List ERow) (Q : VK) (cls : Value) (d : Option Addr) (H : Hp) : Prop := ∃ (C dd : Addr) (name f : Str) (fs : List (Str × V)) (v : V), (C, name, f) ∈ rows ∧ cls = .ref C ∧ d = some dd ∧ H dd = some (.xd fs) ∧ fs.lookup f = some v ∧ ∀ p, H p = none → Q (.ref p) (upd H p (.lst [.str name, v, .bl true]))
def givenX (Q : VK) (v : V) (H : Hp) : Prop := ∀ p, H p = none → Q (.ref p) (upd H p (.lst [.str (Str.ofString "given"), v]))
def TTend (rows : List ERow) : (XK → Hp → VK → Prop) → Hp → VK → Prop := fun tl H Q => ∀ K2 : VK, (∀ v H', givenX Q v H' → K2 v H') → tl (endX rows Q) H K2
end V
namespace V
open PySem PySem.Spec PyProof.Rows L2 U StX
/-- what the making of a lambda does to the heap: its code object is found, or a new one stands in the table at P -/
def LamTo (H : Hp) (P : Addr) (q : Str) (H1 : Hp) : Prop := H1 = H ∨ ∃ (ps : Array Value) (pos : Pos) (c : Addr), H P = some (.tbl ps) ∧ H c = none ∧ H1 = upd (upd H P (.tbl (ps ++ #[rawInt pos.line, rawInt pos.col, .ref c]))) c (LamX.CodeO c q)
def tLamP (P : Addr) (q : Str) (TT : (XK → Hp → VK → Prop) → Hp → VK → Prop) (t : XK → TE) : TE := fun σ H Q => LamX.TabS H P q ∧ ∀ H1, LamTo H P q H1 → TT (fun E H' Q' => t E σ H' Q') H1 Q
theorem lam_to {S : Addr → Prop} {M : Mem} {H H1 : Hp} {P : Addr} {q : Str} (w : Wo S M H) (hm : M P = some (.tab q)) (l : LamTo H P q H1) : Wo S M H1 ∧ Step S M H S M H1 := by
  rcases l with rfl | ⟨ps, pos, c, hP, nC, rfl⟩
  · exact ⟨w, .refl⟩
  · have sP := (w.mem P _ hm).1
    obtain ⟨ps', hP', ht, ha⟩ := (w.mem P _ hm).2
    rw [hP] at hP'
    cases hP'
    have nPc : P ≠ c := fun z => by rw [z, nC] at hP; cases hP
    have e1 : upd (upd H P (.tbl (ps ++ #[rawInt pos.line, rawInt pos.col, .ref c]))) c (LamX.CodeO c q) = upd (upd H c (LamX.CodeO c q)) P (.tbl (ps ++ #[rawInt pos.line, rawInt pos.col, .ref c])) := by
      funext b
      by_cases h1 : b = P
      · rw [h1, upd_ne nPc, upd_same, upd_same]
      · by_cases h2 : b = c
        · rw [h2, upd_same, upd_ne (Ne.symm nPc), upd_same]
        · rw [upd_ne h2, upd_ne h1, upd_ne h1, upd_ne h2]
    have e2 : mset M P (.tab q) = M := by
      funext b
      by_cases h1 : b = P
      · rw [h1, mset_same, hm]
      · rw [mset_ne h1]
    have w1 := w.new (o := LamX.CodeO c q) nC
    have eL : (ps ++ #[rawInt pos.line, rawInt pos.col, .ref c]).toList = ps.toList ++ [rawInt pos.line, rawInt pos.col, .ref c] := by simp
    have hk : Held S (upd (upd H c (LamX.CodeO c q)) P (.tbl (ps ++ #[rawInt pos.line, rawInt pos.col, .ref c]))) P (.tab q) := by
      refine ⟨_, upd_same, by rw [eL]; exact PySem.TriplesOk_snoc _ _ _ _ ht, fun p' cv hcv => ?_⟩
      rw [eL] at hcv
      rcases LamX.among_app _ ht hcv with z | z
      · obtain ⟨c0, a1, a2, a3⟩ := ha p' cv z
        have n0 : c0 ≠ P := fun y => by
          rw [y, hP] at a2
          exact LamX.codeO_ne ps (Option.some.inj a2).symm
        exact ⟨c0, a1, by rw [upd_ne n0]; exact Same.new nC _ _ a2, a3⟩
      · exact ⟨c, z, by rw [upd_ne (Ne.symm nPc), upd_same], w.ns nC⟩
    have w2 := w1.change hm hk
    have t2 := Step.change (S := S) (H := upd H c (LamX.CodeO c q)) (o := .tbl (ps ++ #[rawInt pos.line, rawInt pos.col, .ref c])) (mo' := .tab q) hm
    rw [e2] at w2 t2
    rw [e1]
    exact ⟨w2, (Step.new nC).trans t2⟩
/-- what is told of an error, over data -/
def endQ (rows : List ERow) (R : QD) : QX := fun C fs M => ∃ (name f : Str) (x : D), (C, name, f) ∈ rows ∧ fs.lookup f = some x ∧ R (.lst [.str name, x, .bl true]) M
def dLamE (P : Addr) (q : Str) (rows : List ERow) (dt : QX → DE) : DE := fun δ M R => M P = some (.tab q) ∧ dt (endQ rows R) δ M fun d M' => R (.lst [.str (Str.ofString "given"), d]) M'
theorem lookup_dt {S : Addr → Prop} {H : Hp} {f : Str} {x : D} : ∀ {gs : List (Str × V)} {fs : List (Str × D)}, gs.map (·.1) = fs.map (·.1) → DtA S H (gs.map (·.2)) (fs.map (·.2)) → fs.lookup f = some x → ∃ v, gs.lookup f = some v ∧ Dt S H v x
  | [], [], _, _, h => by cases h
  | [], _ :: _, e, _, _ => by cases e
  | _ :: _, [], e, _, _ => by cases e
  | (a, v) :: gs, (b, y) :: fs, e, d, h => by
    simp only [List.map_cons, List.cons.injEq] at e
    obtain ⟨rfl, e⟩ := e
    cases d with
    | cons d1 d2 =>
      rw [List.lookup_cons] at h ⊢
      cases c : f == a with
      | true =>
        rw [c] at h
        cases h
        exact ⟨v, rfl, d1⟩
      | false =>
        rw [c] at h
        exact lookup_dt e d2 h
instance pu_lamE {P : Addr} {q : Str} {rows : List ERow} {t : XK → TE} {dt : QX → DE} [A : ∀ E, PuXE E (t E) dt] : PuE (tLamP P q (TTend rows) t) (dLamE P q rows dt) := ⟨fun S M σ δ H R Q w e h k => by
  obtain ⟨hm, h⟩ := h
  obtain ⟨ps, hP, ht, ha⟩ := (w.mem P _ hm).2
  refine ⟨⟨ps, hP, ht, fun pos cv hc => let ⟨c, a1, a2, _⟩ := ha pos cv hc; ⟨c, a1, a2⟩⟩, fun H1 l K2 hK => ?_⟩
  obtain ⟨w1, t1⟩ := lam_to w hm l
  have lst : ∀ {S2 : Addr → Prop} {M2 : Mem} {H2 : Hp} {vs : List V} {ds : List D}, Step S M H S2 M2 H2 → Wo S2 M2 H2 → DtA S2 H2 vs ds → R (.lst ds) M2 → ∀ p, H2 p = none → Q (.ref p) (upd H2 p (.lst vs)) := fun t2 w2 d r p np =>
    k _ _ _ _ _ r (t2.trans (.new np)) (w2.new np) (.lst (w2.ns np) upd_same (d.sm (Same.new np)))
  refine (A _).run S M σ δ H1 _ (endQ rows R) _ w1 (e.step w t1) h (fun d S2 M2 v H2 r t2 w2 hd => hK _ _ fun p np => lst (t1.trans t2) w2 (.cons (.str _) (.cons hd .nil)) r p np) (fun C fs S2 M2 d H2 r t2 w2 xf => ?_)
  obtain ⟨name, f, x, hr, hl, r⟩ := r
  rcases xf with ⟨_, rfl⟩ | ⟨dd, gs, rfl, nd, hx, e1, e2⟩
  · cases hl
  · obtain ⟨v, hv, hd⟩ := lookup_dt e1 e2 hl
    exact ⟨C, dd, name, f, gs, v, hr, rfl, rfl, hx, hv, fun p np => lst (t1.trans t2) w2 (.cons (.str _) (.cons hd (.cons (.bl true) .nil))) r p np⟩⟩
theorem x_lamE {P : Addr} {q : Str} {rows : List ERow} {dt : QX → DE} {δ : Dl} {M : Mem} {R : QD} (hm : M P = some (.tab q)) (h : dt (endQ rows R) δ M fun d M' => R (.lst [.str (Str.ofString "given"), d]) M') : dLamE P q rows dt δ M R := ⟨hm, h⟩
end V
namespace V
open PySem PySem.Spec PyProof.Rows L2 U StX
/-- an empty dict that does not change -/
def empD (a : Addr) : D := .opq a (.dK [])
def tDNewE : TE := tDNewK
def dDNewE : DE := fun δ M P => ∀ a, P (empD a) M
instance pu_dnewE : PuE tDNewE dDNewE := ⟨fun S M σ δ H P Q w e h k p hp => k _ S M _ _ (h p) (.new hp) (w.new hp) (.opq (w.ns hp) upd_same)⟩
theorem x_dnewE {δ : Dl} {M : Mem} {P : QD} (h : ∀ a, P (empD a) M) : dDNewE δ M P := h
mutual
/-- as Dp, with empty dicts -/
inductive Dq (K : PySem.W.Frag) (H : Hp) : V → PyData → Prop
  | non : Dq K H .non .none
  | bl (b : Bool) : Dq K H (.bl b) (.bool b)
  | int (i : Int) : Dq K H (.int i) (.int i)
  | str (x : Str) : Dq K H (.str x) (.str x)
  | lst {a : Addr} {xs : List V} {ds : List PyData} : SqL K H a xs → DqAll K H xs ds → Dq K H (.ref a) (.list ds)
  | tup {a : Addr} {xs : List V} {ds : List PyData} : SqT K H a xs → DqAll K H xs ds → Dq K H (.ref a) (.tuple ds)
  | emp {a : Addr} : H a = some (.dK []) → Dq K H (.ref a) (.dict [])
inductive DqAll (K : PySem.W.Frag) (H : Hp) : List V → List PyData → Prop
  | nil : DqAll K H [] []
  | cons {v : V} {vs : List V} {d : PyData} {ds : List PyData} : Dq K H v d → DqAll K H vs ds → DqAll K H (v :: vs) (d :: ds)
end
/-- the modules' dict is known -/
def SysK (H : Hp) : Prop := ∃ (o : Obj) (es : Array DictEntry) (ep : Nat), H sysModules = some (.frz o (.ext fun _ => True)) ∧ o.data = .dict es ep
section
variable {X : Cx} {pins : List (Addr × Obj)} {σ : L2.St} {H : Hp} {s : Shared}
theorem seq_ne {a : Addr} {o : Obj} {vs : Array Value} {n : Nat} (I : Inv X pins σ H s) (k : SysK H) (ho : s.heap.get? a = some o) (hd : o.data = .seq vs n) : a ≠ sysModules := fun z => by
  obtain ⟨o1, es, ep, h1, h2⟩ := k
  obtain ⟨e, _⟩ := I.hok _ _ h1
  rw [z, e] at ho
  cases ho
  rw [h2] at hd
  cases hd
mutual
theorem Dq.reads (I : Inv X pins σ H s) : ∀ (d : PyData) (v : V) (u : Value), Dq X.K H v d → RelV v u → ∃ as, Reads s.heap u d as ∧ (SysK H → sysModules ∉ as)
  | .none, _, _, h, r => by
    cases h
    cases r
    exact ⟨_, Reads.none, fun _ => by simp⟩
  | .bool b, _, _, h, r => by
    cases h
    cases r
    exact ⟨_, Reads.bool b, fun _ => by simp⟩
  | .int i, _, _, h, r => by
    cases h
    obtain ⟨t, rfl⟩ := r
    exact ⟨_, Reads.int i t, fun _ => by simp⟩
  | .str x, _, _, h, r => by
    cases h
    obtain ⟨t, rfl⟩ := r
    exact ⟨_, Reads.str x t, fun _ => by simp⟩
  | .list ds, _, _, h, r => by
    cases h with
    | lst hs ha =>
      cases r
      obtain ⟨its, rv, ⟨o, n, ho, hc, _, hd⟩, _⟩ := I.list hs
      obtain ⟨as, hr, hn⟩ := Dq.readsAll I ds _ its ha rv
      exact ⟨_, Reads.list ho hc hd hr, fun k z => (List.mem_cons.mp z).elim (fun e => seq_ne I k ho hd e.symm) (hn k)⟩
  | .tuple ds, _, _, h, r => by
    cases h with
    | tup hs ha =>
      cases r
      obtain ⟨its, rv, ⟨o, ho, hc, n, hd⟩, _⟩ := I.tuple hs
      obtain ⟨as, hr, hn⟩ := Dq.readsAll I ds _ its ha rv
      exact ⟨_, Reads.tuple ho hc hd hr, hn⟩
  | .dict kvs, _, _, h, r => by
    cases h with
    | emp he =>
      cases r
      obtain ⟨_, hne, vs, hk, hD⟩ := I.hok _ _ he
      cases hk
      obtain ⟨o, es, ep, ho, hx, hd, _, hes, _⟩ := hD
      have e0 : es.toList = [] := by
        generalize es.toList = l at hes
        cases hes
        rfl
      refine ⟨_, Reads.dict (kvs := []) (as := []) (bs := []) ho hx.1 hd (by rw [e0]; exact .nil) (by rw [e0]; exact .nil), fun k z => ?_⟩
      have z := List.mem_singleton.mp (by simpa using z)
      rw [← z] at hne
      simp at hne
theorem Dq.readsAll (I : Inv X pins σ H s) : ∀ (ds : List PyData) (vs : List V) (us : List Value), DqAll X.K H vs ds → Vals vs us → ∃ as, ReadsAll s.heap us ds as ∧ (SysK H → sysModules ∉ as)
  | [], _, _, h, r => by
    cases h
    cases r
    exact ⟨_, ReadsAll.nil, fun _ => by simp⟩
  | d :: ds, _, _, h, r => by
    cases h with
    | cons h1 h2 =>
      cases r with
      | cons r1 r2 =>
        obtain ⟨as, q1, n1⟩ := Dq.reads I d _ _ h1 r1
        obtain ⟨bs, q2, n2⟩ := Dq.readsAll I ds _ _ h2 r2
        exact ⟨_, ReadsAll.cons q1 q2, fun k z => (List.mem_append.mp z).elim (n1 k) (n2 k)⟩
end
end
def rReprQ (K : PySem.W.Frag) : List V → Hp → VK → Prop := fun xs H Q => ∃ (v : V) (p : PyData), xs = [v] ∧ Dq K H v p ∧ PyData.showable p = true ∧ SysK H ∧ PyData.depth p ≤ 40 ∧ (PyData.shown p).length ≤ sizeLine ∧ Q (.str (PyData.shown p)) H
mutual
/-- the data that can be shown, empty dicts among them -/
inductive IsQ : D → PyData → Prop
  | non : IsQ .non .none
  | bl (b : Bool) : IsQ (.bl b) (.bool b)
  | int (i : Int) : IsQ (.int i) (.int i)
  | str (x : Str) : IsQ (.str x) (.str x)
  | lst {ds : List D} {ps : List PyData} : IsQs ds ps → IsQ (.lst ds) (.list ps)
  | tup {ds : List D} {ps : List PyData} : IsQs ds ps → IsQ (.tup ds) (.tuple ps)
  | emp (a : Addr) : IsQ (empD a) (.dict [])
inductive IsQs : List D → List PyData → Prop
  | nil : IsQs [] []
  | cons {d : D} {ds : List D} {p : PyData} {ps : List PyData} : IsQ d p → IsQs ds ps → IsQs (d :: ds) (p :: ps)
end
mutual
theorem isQ_dq {K : PySem.W.Frag} {S : Addr → Prop} {H : Hp} : ∀ {d : D} {p : PyData} {v : V}, IsQ d p → Dt S H v d → Dq K H v p
  | _, _, _, .non, h => by cases h; exact .non
  | _, _, _, .bl b, h => by cases h; exact .bl b
  | _, _, _, .int b, h => by cases h; exact .int b
  | _, _, _, .str b, h => by cases h; exact .str b
  | _, _, _, .lst q, h => by
    cases h with
    | lst n ha hs => exact .lst (SqL.of ha) (isQs_dq q hs)
  | _, _, _, .tup q, h => by
    cases h with
    | tup n ha hs => exact .tup (SqT.of ha) (isQs_dq q hs)
  | _, _, _, .emp a, h => by
    cases h with
    | opq n ha => exact .emp ha
theorem isQs_dq {K : PySem.W.Frag} {S : Addr → Prop} {H : Hp} : ∀ {d : List D} {p : List PyData} {v : List V}, IsQs d p → DtA S H v d → DqAll K H v p
  | _, _, _, .nil, h => by cases h; exact .nil
  | _, _, _, .cons q qs, h => by
    cases h with
    | cons h1 h2 => exact .cons (isQ_dq q h1) (isQs_dq qs h2)
end
def rReprQ1 : DC := fun ds M P => ∃ d p, ds = [d] ∧ IsQ (vw M d) p ∧ M sysModules = some .sys ∧ PyData.showable p = true ∧ PyData.depth p ≤ 40 ∧ (PyData.shown p).length ≤ sizeLine ∧ P (.str (PyData.shown p)) M
instance cb_reprQ {K : PySem.W.Frag} : CbD (rReprQ K) rReprQ1 := ⟨fun S M H vs ds P Q w hv h k => by
  obtain ⟨d, p, rfl, e, hm, h1, h3, h4, q⟩ := h
  have hsys : SysK H := (w.mem _ _ hm).2
  match vs, hv with
  | [v], .cons h0 .nil =>
    refine ⟨v, p, rfl, ?_, h1, hsys, h3, h4, k _ S M _ H q .refl w (.str _)⟩
    cases d with
    | ptr a =>
      unfold vw at e
      cases hma : M a with
      | none => simp only [hma] at e; cases e
      | some mo =>
        cases mo with
        | lst ds =>
          simp only [hma] at e
          cases h0
          obtain ⟨_, vs, g1, g2⟩ := w.mem a _ hma
          cases e with
          | lst qq => exact .lst (SqL.of g1) (isQs_dq qq g2)
        | dic ds => simp only [hma] at e; cases e
        | dct ds => simp only [hma] at e; cases e
        | ins C ds => simp only [hma] at e; cases e
        | tab q => simp only [hma] at e; cases e
        | sys => simp only [hma] at e; cases e
        | xob C fs => simp only [hma] at e; cases e
    | _ => exact isQ_dq e h0⟩
structure PyQ (W k : Nat) (p : PyData) : Prop where
  lv : PyData.leavesShort 1000 p = true
  sh : PyData.showable p = true
  dep : PyData.depth p ≤ k
  wt : PyData.weight p ≤ W
structure PysQ (W k : Nat) (ps : List PyData) : Prop where
  lv : PyData.leavesShortAll 1000 ps = true
  sh : PyData.showableAll ps = true
  dep : PyData.depthAll ps ≤ k
  wt : PyData.weightAll ps ≤ W
def okQ (W k : Nat) (d : D) : Prop := ∃ p, IsQ d p ∧ PyQ W k p
def okQs (W k : Nat) (ds : List D) : Prop := ∃ ps, IsQs ds ps ∧ PysQ W k ps
theorem okQ.mono {W W' k k' : Nat} {d : D} : okQ W k d → W ≤ W' → k ≤ k' → okQ W' k' d := fun ⟨p, e, a⟩ h h2 => ⟨p, e, a.lv, a.sh, Nat.le_trans a.dep h2, Nat.le_trans a.wt h⟩
theorem okQs.nil (W k : Nat) : okQs W k [] := ⟨[], .nil, rfl, rfl, Nat.zero_le _, Nat.zero_le _⟩
theorem okQs.cons {W W' k : Nat} {d : D} {ds : List D} : okQ W k d → okQs W' k ds → okQs (W + 1 + W') k (d :: ds) := fun ⟨p, e, a⟩ ⟨ps, e2, b⟩ => by
  obtain ⟨a1, a2, a3, a4⟩ := a
  obtain ⟨b1, b2, b3, b4⟩ := b
  refine ⟨p :: ps, .cons e e2, ?_, ?_, ?_, ?_⟩
  · rw [PyData.leavesShortAll, a1, b1]; rfl
  · rw [PyData.showableAll, a2, b2]; rfl
  · rw [PyData.depthAll]; omega
  · rw [PyData.weightAll]; omega
theorem okQs.all {W k : Nat} : ∀ {ds : List D}, (∀ d ∈ ds, okQ W k d) → okQs (ds.length * (W + 1)) k ds
  | [], _ => okQs.nil _ _
  | d :: ds, h => by
    obtain ⟨ps, e, a⟩ := okQs.cons (h d List.mem_cons_self) (okQs.all fun x hx => h x (List.mem_cons_of_mem _ hx))
    have q : (ds.length + 1) * (W + 1) = W + 1 + ds.length * (W + 1) := by rw [Nat.add_mul, Nat.one_mul, Nat.add_comm]
    rw [List.length_cons, q]
    exact ⟨ps, e, a⟩
theorem okQs.list {W k : Nat} {ds : List D} : okQs W k ds → okQ W (k + 1) (.lst ds) := fun ⟨ps, e, a⟩ => ⟨.list ps, .lst e, by rw [PyData.leavesShort]; exact a.lv, by rw [PyData.showable]; exact a.sh, by rw [PyData.depth]; have := a.dep; omega, by rw [PyData.weight]; exact a.wt⟩
theorem okQs.tuple {W k : Nat} {ds : List D} : okQs W k ds → okQ W (k + 1) (.tup ds) := fun ⟨ps, e, a⟩ => ⟨.tuple ps, .tup e, by rw [PyData.leavesShort]; exact a.lv, by rw [PyData.showable]; exact a.sh, by rw [PyData.depth]; have := a.dep; omega, by rw [PyData.weight]; exact a.wt⟩
theorem okQ.emp (a : Addr) : okQ 0 1 (empD a) := ⟨.dict [], .emp a, by decide +kernel, by decide +kernel, by decide +kernel, by decide +kernel⟩
theorem okQ.bl (b : Bool) : okQ 0 0 (.bl b) := ⟨_, .bl b, rfl, rfl, by rw [PyData.depth]; exact Nat.le_refl _, by rw [PyData.weight]; exact Nat.le_refl _⟩
theorem okQ.non : okQ 0 0 .non := ⟨_, .non, rfl, rfl, by rw [PyData.depth]; exact Nat.le_refl _, by rw [PyData.weight]; exact Nat.le_refl _⟩
theorem okQ.int {i : Int} {b : Nat} (h : i.natAbs < 2 ^ b) (h0 : 0 < b := by decide) (hb : b ≤ 900 := by decide) : okQ b 0 (.int i) := by
  obtain ⟨h1, h2, h3, h4, h5, h6⟩ := PyBg.int h h0 hb
  exact ⟨_, .int i, PyData.leavesShort_of_canLay0 1000 _ h1 h2, h3, h5, h6⟩
theorem okQ.str {z : Str} {n : Nat} (h : ∀ c ∈ cd z, c < 0x110000) (hn : (cd z).length ≤ n) : okQ n 0 (.str z) := by
  obtain ⟨p, e, h1, h2, h3, h4, h5, h6⟩ := bgP.str h hn
  rw [D.py] at e
  cases e
  exact ⟨_, .str z, PyData.leavesShort_of_canLay0 1000 _ h1 h2, h3, h5, h6⟩
end V
namespace V
open PySem PySem.Spec PyProof.Rows L2 U StX
/-- the script -/
def isScr (K : PySem.W.Frag) (d : D) (ns : List Int) : Prop := (∃ a, d = .opq a (.lst (ns.map V.int))) ∨ (∃ a o, d = .opq a (.frz o (.lst (ns.map V.int)))) ∨ ∃ a, d = .ptr a ∧ ∀ H : Hp, SqL K H a (ns.map V.int)
theorem scr_get {K : PySem.W.Frag} {S : Addr → Prop} {H : Hp} {v : V} {d : D} {ns : List Int} (h : Dt S H v d) (e : isScr K d ns) : ∃ a, v = .ref a ∧ SqL K H a (ns.map V.int) := by
  rcases e with ⟨a, rfl⟩ | ⟨a, o, rfl⟩ | ⟨a, rfl, q⟩
  · cases h with
    | opq n ha => exact ⟨a, rfl, .inl (.inl ha)⟩
  · cases h with
    | opq n ha => exact ⟨a, rfl, .inl (.inr ⟨o, ha⟩)⟩
  · cases h
    exact ⟨a, rfl, q H⟩
def rLenUS (K : PySem.W.Frag) : List V → Hp → VK → Prop := rLenU K
def rLenS (K : PySem.W.Frag) : DC := fun ds M P => ∃ d ns, ds = [d] ∧ isScr K d ns ∧ P (.int (ns.length : Nat)) M
instance cb_lenS {K : PySem.W.Frag} : CbD (rLenUS K) (rLenS K) := ⟨fun S M H vs ds P Q w hv h k => by
  obtain ⟨d, ns, rfl, e, p⟩ := h
  match vs, hv with
  | [v], .cons h0 .nil =>
    obtain ⟨a, rfl, hs⟩ := scr_get h0 e
    refine ⟨_, .inl hs, ?_⟩
    rw [List.length_map]
    exact k _ S M _ H p .refl w (.int _)⟩
/-- what the law keeps: tables with what their codes are called, the modules' dict -/
def M0 (Ts : List (Addr × Str)) : Mem := fun b => if b = sysModules then some .sys else (Ts.lookup b).map .tab
end V
namespace V
open PySem PySem.Spec PyProof.Rows L2 U StX
end V
namespace V
open PySem PySem.Spec PyProof.Rows L2 U StX
theorem cpow19 : CPow 10 19 := by unfold CPow; decide
def tEither (a b : TE) : TE := fun σ H Q => a σ H Q ∨ b σ H Q
def dEither (a b : DE) : DE := fun δ M P => a δ M P ∨ b δ M P
instance pu_either {ta tb : TE} {da db : DE} [A : PuE ta da] [B : PuE tb db] : PuE (tEither ta tb) (dEither da db) := ⟨fun S M σ δ H P Q w e h k => h.elim (fun h => .inl (A.run S M σ δ H P Q w e h k)) (fun h => .inr (B.run S M σ δ H P Q w e h k))⟩
abbrev dEitherX (a b : QX → DE) : QX → DE := fun q => dEither (a q) (b q)
theorem x_orL {a b : QX → DE} {q : QX} {δ : Dl} {M : Mem} {P : QD} (h : a q δ M P) : dEitherX a b q δ M P := .inl h
theorem x_orR {a b : QX → DE} {q : QX} {δ : Dl} {M : Mem} {P : QD} (h : b q δ M P) : dEitherX a b q δ M P := .inr h
instance pux_either {E : XK} {ta tb : TE} {da db : QX → DE} [A : PuXE E ta da] [B : PuXE E tb db] : PuXE E (tEither ta tb) (dEitherX da db) := ⟨fun S M σ δ H P q Q w e h k x => h.elim (fun h => .inl (A.run S M σ δ H P q Q w e h k x)) (fun h => .inr (B.run S M σ δ H P q Q w e h k x))⟩
end V
namespace V
open PySem PySem.Spec PyProof.Rows L2 U StX
abbrev dOpX (r : DR) (a : QX → DE) (b : DE) : QX → DE := fun q => dOp r (a q) b
section
variable {E : XK} {ta tb : TE} {da : QX → DE} {db : DE} {r : R2} {rd : DR}
instance pux_op [A : PuXE E ta da] [B : PuE tb db] [R : OpD r rd] : PuXE E (tOp r ta tb) (dOpX rd da db) := ⟨fun S M σ δ H P q Q w e h k x =>
  A.run S M σ δ H _ q _ w e h (fun d S1 M1 v H1 p1 t1 w1 h1 =>
    B.run S1 M1 σ δ H1 _ _ w1 (e.step w t1) p1 fun d2 S2 M2 v2 H2 p2 t2 w2 h2 =>
      R.run S2 M2 H2 _ _ _ _ P Q w2 (dt_step w1 t2 _ h1) h2 p2 (k.go (t1.trans t2))) x⟩
end
def dCallLX (i : Nat) (f : Addr) (sp : DCX) (q : QX) (t : DA) : DE := fun δ M P => δ[i]? = some (some (.ptr f)) ∧ t δ M fun ds M1 => sp ds M1 P q
instance pux_callL {i : Nat} {f : Addr} {sp : DCX} {E : XK} {t : TA} {dt : DA} [A : PuA t dt] : PuXE E (tCallL i f (liftX sp) [] E t) (fun q => dCallLX i f sp q dt) := ⟨fun S M σ δ H P q Q w e h k x => by
  obtain ⟨v, hv, hd⟩ := e.at_ i _ h.1
  cases hd
  exact ⟨hv, A.run S M σ δ H _ _ w e h.2 fun ds S1 M1 vs H1 p1 t1 w1 h1 => by
    rw [List.append_nil]
    exact ⟨S1, M1, ds, P, q, w1, h1, p1, k.go t1, x.go t1⟩⟩⟩
def tCallLN (i : Nat) (f : Addr) (n : Nat) (sp : Sp) (g : List V → List V → List V) (E : XK) (tk : TA) : TE := fun σ H Q => σ[i]? = some (some (.ref f)) ∧ tk σ H fun zs H1 => zs.length = n ∧ sp (g [] zs) H1 Q E
def dCallLN (i : Nat) (f : Addr) (n : Nat) (sp : DCX) (g : List D → List D → List D) (q : QX) (tk : DA) : DE := fun δ M P => δ[i]? = some (some (.ptr f)) ∧ tk δ M fun es M1 => es.length = n ∧ sp (g [] es) M1 P q
instance pux_callLN {i n : Nat} {f : Addr} {sp : DCX} {E : XK} {gV : List V → List V → List V} {gD : List D → List D → List D} {tk : TA} {dk : DA} [B : PuA tk dk] [G : RelG gV gD] : PuXE E (tCallLN i f n (liftX sp) gV E tk) (fun q => dCallLN i f n sp gD q dk) := ⟨fun S M σ δ H P q Q w e h k x => by
  obtain ⟨v, hv, hd⟩ := e.at_ i _ h.1
  cases hd
  exact ⟨hv, B.run S M σ δ H _ _ w e h.2 fun es S1 M1 zs H1 p1 t1 w1 h1 => ⟨by rw [h1.length]; exact p1.1, S1, M1, _, P, q, w1, G.run S1 H1 _ _ _ _ .nil h1, p1.2, k.go t1, x.go t1⟩⟩⟩
section
variable {δ : Dl} {M : Mem} {P : QD} {t : DA} {q : QX} {nx : QS} {rt : QD} {G : Mem → Prop} {g : DG} {b : DS} {x d : D} {xs : List D}
theorem x_callLX {i : Nat} {f : Addr} {sp : DCX} {v : D} (e : δ[i]? = some (some v)) (e2 : v = .ptr f) (h : t δ M fun ds M1 => sp ds M1 P q) : dCallLX i f sp q t δ M P := ⟨by rw [← e2]; exact e, h⟩
theorem x_callLN {i n : Nat} {f : Addr} {sp : DCX} {gD : List D → List D → List D} {v : D} (e : δ[i]? = some (some v)) (e2 : v = .ptr f) (h : t δ M fun es M1 => es.length = n ∧ sp (gD [] es) M1 P q) : dCallLN i f n sp gD q t δ M P := ⟨by rw [← e2]; exact e, h⟩
theorem x_opX {r : DR} {a : QX → DE} {c : DE} (h : a q δ M fun x M1 => c δ M1 fun y M2 => r x y M2 P) : dOpX r a c q δ M P := h
theorem x_loopC (h : g x δ M fun δ1 M1 => b (fun δ' M' => G M' ∧ dLoop G g b nx rt xs δ' M') rt nx (fun δ' M' => G M' ∧ dLoop G g b nx rt xs δ' M') δ1 M1) : dLoop G g b nx rt (x :: xs) δ M := h
theorem x_loopN (h : nx δ M) : dLoop G g b nx rt [] δ M := h
/-- an append, its two steps -/
theorem x_ap1 {l : Addr} {p : Addr → Prop} (h : M l = some (.lst xs)) (q : p l) : ∃ l', D.ptr l = D.ptr l' ∧ (∃ xs, M l' = some (.lst xs)) ∧ p l' := ⟨l, rfl, ⟨xs, h⟩, q⟩
theorem x_ap2 {l : Addr} {N : Nat} {p : List D → D → Prop} (h : M l = some (.lst xs)) (hl : xs.length < N) (q : p xs d) : ∃ xs y, [d] = [y] ∧ M l = some (.lst xs) ∧ xs.length < N ∧ p xs y := ⟨xs, d, rfl, h, hl, q⟩
end
theorem kt_of {K : PySem.W.Frag} {C : Addr} (h1 : PySem.W.kitOne K (.type "NoneType") (.ref C) = some false) (h2 : PySem.W.kitOne K (.type "bool") (.ref C) = some false) (h3 : PySem.W.kitOne K (.type "int") (.ref C) = some false) (h4 : PySem.W.kitOne K (.type "str") (.ref C) = some false)
    (h5 : PySem.W.kitOne K (.type "list") (.ref C) = some false) (h6 : PySem.W.kitOne K (.type "tuple") (.ref C) = some false) (h7 : PySem.W.kitOne K (.type "dict") (.ref C) = some false) : ∀ t ∈ (["NoneType", "bool", "int", "str", "list", "tuple", "dict"] : List String), PySem.W.kitOne K (.type t) (.ref C) = some false := fun t ht => by
  simp only [List.mem_cons, List.not_mem_nil, or_false] at ht
  rcases ht with rfl | rfl | rfl | rfl | rfl | rfl | rfl
  · exact h1
  · exact h2
  · exact h3
  · exact h4
  · exact h5
  · exact h6
  · exact h7
theorem kx_of {K : PySem.W.Frag} {C : Addr} (h3 : PySem.W.kitOne K (.ref C) (.type "int") = some false) (h2 : PySem.W.kitOne K (.ref C) (.type "bool") = some false) (h4 : PySem.W.kitOne K (.ref C) (.type "str") = some false)
    (h5 : PySem.W.kitOne K (.ref C) (.type "list") = some false) (h6 : PySem.W.kitOne K (.ref C) (.type "tuple") = some false) (h7 : PySem.W.kitOne K (.ref C) (.type "dict") = some false) : ∀ t ∈ (["int", "bool", "str", "list", "tuple", "dict"] : List String), PySem.W.kitOne K (.ref C) (.type t) = some false := fun t ht => by
  simp only [List.mem_cons, List.not_mem_nil, or_false] at ht
  rcases ht with rfl | rfl | rfl | rfl | rfl | rfl
  · exact h3
  · exact h2
  · exact h4
  · exact h5
  · exact h6
  · exact h7
theorem sizeLineN : sizeLine = 16777216 := by rw [sizeLine_eq]
theorem mset_comm {M : Mem} {a b : Addr} {o u : MO} (h : a ≠ b) : mset (mset M a o) b u = mset (mset M b u) a o := by
  funext c
  by_cases h1 : c = b
  · subst h1
    rw [mset_same, mset_ne (Ne.symm h), mset_same]
  · by_cases h2 : c = a
    · subst h2
      rw [mset_ne h1, mset_same, mset_same]
    · rw [mset_ne h1, mset_ne h2, mset_ne h2, mset_ne h1]
theorem mset_set2 {M : Mem} {a b : Addr} {o u o' : MO} (h : b ≠ a) : mset (mset (mset M a o) b u) a o' = mset (mset M a o') b u := by
  rw [mset_comm h, mset_set]
theorem mset_get2 {M : Mem} {a b : Addr} {o u : MO} (h : a ≠ b) : mset (mset M a o) b u a = some o := by rw [mset_ne h, mset_same]
end V
namespace V
open PySem PySem.Spec PyProof.Rows L2 U StX
/-- try: body except c: suite; what the body raises is of c -/
def tTry1 (K : PySem.W.Frag) (c : Value) (tb : XK → TS) (ts : TS) : TS := fun D σ H => tb (fun cls d H' => PySem.W.exmOne K cls c = some true ∧ ∀ σ' : L2.St, ts D σ' H') D σ H
theorem ps_try1 {X : Cx} {x : Str} {c : Value} {body suite : List Stmt} {b₀ : Stmt} {np pos pos' : Pos} {tb : XK → TS} {ts : TS} (hs : X.stack = X.env :: X.outer) (hf : X.env.frame = some X.env.locals) (hc : Names X x c)
    (hb : ∀ (E : XK) (pn : List (Addr × Obj)) (xe : Value → Shared → Prop), Takes (X.tr pn xe) (fun cls d _ H => E cls d H) → PassesOwn (model X.prog X.w) X.A X.env xe → PSs (X.tr pn xe) body (tb E))
    (hsu : ∀ (a : Addr) (oe : Obj) (pn : List (Addr × Obj)), PSs (X.suite a ((a, oe) :: pn)) (b₀ :: suite) ts) :
    PS X (.Try body [.ExceptHandler (some (.Name x np)) none (b₀ :: suite) pos'] [] [] pos) (tTry1 X.K c tb ts) := by
  have main := ps_try_only (X := X) (pos := pos) (np := np) (pos' := pos') (x := x) (c := c) (body := body) (suite := suite) (b₀ := b₀) (ts := fun _ _ _ => ts) (Wout := fun _ _ _ _ => False)
    (tb := fun W D σ H => ∃ E : XK, (∀ cls d σ' H', E cls d H' → W cls d σ' H') ∧ tb E D σ H) hs hf hc takes0
    (fun W pn xe tk po => ⟨fun pins s σ H D I h => by
      obtain ⟨E, hW, h⟩ := h
      exact (hb E pn xe (tk.imp fun cls d σ' H' e => hW cls d σ' H' e) po).run pins s σ H D I h⟩)
    (fun a oe cls d pn _ _ => hsu a oe pn)
  refine ⟨fun pins s σ H D I h => main.run pins s σ H D I ⟨_, fun cls d σ' H' e => ?_, h⟩⟩
  exact ⟨true, e.1, fun _ a _ => e.2 σ', fun z => nomatch z⟩
def sTry1 (K : PySem.W.Frag) (c : Value) (db : QX → DS) (ds : DS) : DS := fun nx rt bk ct δ M => db (fun C _ M' => PySem.W.exmOne K (.ref C) c = some true ∧ ∀ n, ds nx rt bk ct (List.replicate n none) M') nx rt bk ct δ M
theorem en_none {S : Addr → Prop} {H : Hp} (σ : L2.St) : En S H σ (List.replicate σ.length none) := ⟨by rw [List.length_replicate], fun i d h => by
  rw [List.getElem?_replicate] at h
  split at h <;> cases h⟩
instance pu_try1 {K : PySem.W.Frag} {c : Value} {tb : XK → TS} {ts : TS} {db : QX → DS} {ds : DS} [A : ∀ E, PuXS E (tb E) db] [B : PuS ts ds] : PuS (tTry1 K c tb ts) (sTry1 K c db ds) := ⟨fun S M σ δ H nx rt bk ct D w e h l =>
  (A _).run S M σ δ H nx rt bk ct D _ w e h l fun C fs S' M' d H' q t w' _ => ⟨q.1, fun σ' => B.run S' M' σ' _ H' nx rt bk ct D w' (en_none σ') (q.2 σ'.length) (l.go t)⟩⟩
theorem x_try1 {K : PySem.W.Frag} {c : Value} {db : QX → DS} {ds : DS} {nx bk ct : QS} {rt : QD} {δ : Dl} {M : Mem} (h : db (fun C _ M' => PySem.W.exmOne K (.ref C) c = some true ∧ ∀ n, ds nx rt bk ct (List.replicate n none) M') nx rt bk ct δ M) : sTry1 K c db ds nx rt bk ct δ M := h
end V
namespace V
open PySem PySem.Spec PyProof.Rows L2 U StX
def rSplitU : V → List V → Hp → VK → Prop := fun x xs H Q => ∃ a b, x = .str a ∧ xs = [.str b] ∧ (b.length == 0) = false ∧ a.length + 2 ≤ sizeLine ∧ rNewStrs (Txt.split a b) H Q
def tSplit (a b : TE) : TE := tM1 rSplitU a b
theorem dtA_strD {S : Addr → Prop} {H : Hp} : ∀ ys : List Str, DtA S H (ys.map V.str) (ys.map D.str)
  | [] => .nil
  | y :: ys => .cons (.str y) (dtA_strD ys)
def rSplit1 : DR := fun x y M P => ∃ z s, x = .str z ∧ y = .str s ∧ (s.length == 0) = false ∧ z.length + 2 ≤ sizeLine ∧ P (.lst ((Txt.split z s).map D.str)) M
def dJoin1S (a b : DE) : DE := fun δ M P => a δ M fun x M1 => (∃ z, x = .str z) ∧ b δ M1 fun y M2 => rSplit1 x y M2 P
instance pu_split {ta tb : TE} {da db : DE} [A : PuE ta da] [B : PuE tb db] : PuE (tSplit ta tb) (dJoin1S da db) := ⟨fun S M σ δ H P Q w e h k => by
  refine A.run S M σ δ H _ _ w e h fun d S1 M1 v H1 p1 t1 w1 h1 => ?_
  obtain ⟨⟨z, rfl⟩, p1⟩ := p1
  cases h1
  refine ⟨⟨z, rfl⟩, B.run S1 M1 σ δ H1 _ _ w1 (e.step w t1) p1 fun d2 S2 M2 v2 H2 p2 t2 w2 h2 => ?_⟩
  obtain ⟨z', s, e1, rfl, h3, h4, q⟩ := p2
  cases e1
  cases h2
  exact ⟨z, s, rfl, rfl, h3, h4, fun p hp => k _ _ _ _ _ q ((t1.trans t2).trans (.new hp)) (w2.new hp) (.lst (w2.ns hp) upd_same ((dtA_strD _).sm (Same.new hp)))⟩⟩
theorem x_split {a b : DE} {δ : Dl} {M : Mem} {P : QD} (h : a δ M fun x M1 => (∃ z, x = .str z) ∧ b δ M1 fun y M2 => rSplit1 x y M2 P) : dJoin1S a b δ M P := h
end V
namespace V
open PySem PySem.Spec PyProof.Rows L2 U StX
def tLenSetX (K : PySem.W.Frag) (ta : TE) : TE := tLenSetS K ta
def dLenSetX (a : DE) : DE := fun δ M P => a δ M fun x M1 => ∃ ts : List Str, isTF x (ts.map D.str) ∧ ts.length ≤ 4000 ∧ P (.int ((metS ts).length : Nat)) M1
instance pu_lenSetX {K : PySem.W.Frag} {ta : TE} {da : DE} [A : PuE ta da] : PuE (tLenSetX K ta) (dLenSetX da) := ⟨fun S M σ δ H P Q w e h k =>
  A.run S M σ δ H _ _ w e h fun d S1 M1 v H1 p1 t1 w1 h1 => by
    obtain ⟨ts, h2, hn, p1⟩ := p1
    obtain ⟨a, vs, rfl, n, ha, hs⟩ := tf_get h1 h2
    have eu := hs.strs_eq
    subst eu
    exact ⟨_, ts, rfl, .inr (Or.inl ha), hn, k _ S1 M1 _ H1 p1 t1 w1 (.int _)⟩⟩
end V
namespace V
open PySem PySem.Spec PyProof.Rows L2 U
section
variable {X : Cx} {n : Nat} {f : Addr} {fd : FuncData} {ps : List Str} {C : Addr} {sp : Sp}
def rLenO (C : Addr) (sp : Sp) : List V → Hp → VK → Prop := fun xs H Q => ∃ (a : Addr) (dx : Addr) (fs : List (Str × V)), xs = [.ref a] ∧ H a = some (.ins C dx fs) ∧ sp [.ref a] H (fun v H' => ∃ m : Int, v = .int m ∧ 0 ≤ m ∧ m < 2 ^ 63 ∧ Q (.int m) H') L2.E0
def rLenO1 (C : Addr) (sp : DC) : DC := fun ds M P => ∃ p fs, ds = [.ptr p] ∧ M p = some (.ins C fs) ∧ sp [.ptr p] M fun d M' => ∃ m : Int, d = .int m ∧ 0 ≤ m ∧ m < 2 ^ 63 ∧ P (.int m) M'
instance cb_lenO {C : Addr} {sp : DC} : CbD (rLenO C (lift sp)) (rLenO1 C sp) := ⟨fun S M H vs ds P Q w hv h k => by
  obtain ⟨p, fs, rfl, hm, q⟩ := h
  match vs, hv with
  | [v], .cons h1 .nil =>
    obtain ⟨a, dx, fs', rfl, ha, _, _⟩ := in_get w h1 (.inr ⟨p, fs, rfl, hm, rfl, rfl⟩)
    refine ⟨a, dx, fs', rfl, ha, S, M, [.ptr p], _, w, .cons h1 .nil, q, fun d S' M' v' H' e st w' hd => ?_⟩
    obtain ⟨m, rfl, k0, k1, pp⟩ := e
    cases hd
    exact ⟨m, rfl, k0, k1, k _ S' M' _ H' pp st w' (.int m)⟩⟩
end
end V
namespace V
open PySem PySem.Spec PyProof.Rows L2 U StX
structure FnQ (P : Program) (w : World) (K : PySem.W.Frag) (mg : Str → Option Value) (base : Heap) (k : Nat) (f : Addr) (fd : FuncData) (ps : List Str) (sp : Sp) : Prop where
  len : ∀ vs H Q E, sp vs H Q E → vs.length = ps.length
  run : ∀ (A : Around) (outer : List Env) (s : Shared) (H : Hp) (args : Args) (us : List Value) (vs : List V) (Q : VK) (E : XK), L2H.RoomH k A → Env0 P w K mg base A outer s H → BindsTo s fd args (ps.zip us) → Vals vs us → sp vs H Q E →
    codeAny (model P w) A (.call (.ref f) args) (CR C8.CX0 outer P w H s Q E) s
section
variable {P : Program} {w : World} {K : PySem.W.Frag} {mg : Str → Option Value} {base : Heap} {x qual : Str} {st : Stmt} {f : Addr} {fd : FuncData} {N ps : List Str} {k : Nat} {sp : Sp} {sd : DC}
/-- a quiet def is one that may be called from where nothing is caught -/
theorem FnQ.ok (F : FnQ P w K mg base k f fd ps sp) : FnOk P w K mg base C8.CX0 k f fd ps sp := ⟨F.len, fun A outer s H args us vs Q E hr e0 hb r h => F.run A outer s H args us vs Q E (L2H.roomH_of hr) e0 hb r h⟩
end
abbrev xObj (oe : Obj) : HO := .frz oe (.ext fun _ => True)
/-- isinstance(e, c), e an exception -/
def rIsX (K : PySem.W.Frag) : List V → Hp → VK → Prop := fun xs H Q => ∃ (a D : Addr) (oe : Obj) (us : Array Value) (c : V) (cv : Value) (b : Bool), xs = [.ref a, c] ∧ H a = some (xObj oe) ∧ oe.cls = .ref D ∧ oe.data = .fields us ∧ (oe.dict = none ∨ ∃ dd gs, oe.dict = some dd ∧ H dd = some (.xd gs)) ∧
  ExcC K D ∧ (∀ u, RelV c u → u = cv) ∧ PySem.W.kitOne K (.ref D) cv = some b ∧ Q (.bl b) H
/-- e.f, e an exception -/
def tXfT (K : PySem.W.Frag) (f : Str) (te : TE) : TE := fun σ H Q => te σ H fun x H1 => ∃ (a C : Addr) (oe : Obj) (us : Array Value) (dd : Addr) (gs : List (Str × V)) (v : V), x = .ref a ∧ H1 a = some (xObj oe) ∧ oe.cls = .ref C ∧ oe.data = .fields us ∧ oe.dict = some dd ∧ H1 dd = some (.xd gs) ∧
  XfC K C ∧ PySem.W.findIn K (.ref C) f = some none ∧ gs.lookup f = some v ∧ Q v H1
def rIsXD (K : PySem.W.Frag) : DC := fun ds M P => ∃ (a C : Addr) (fs : List (Str × D)) (c : D) (cv : Value) (b : Bool), ds = [.ptr a, c] ∧ M a = some (.xob C fs) ∧ ExcC K C ∧ ((∃ A, c = .ptr A ∧ cv = .ref A) ∨ ∃ n, c = .ty n ∧ cv = .type n) ∧ PySem.W.kitOne K (.ref C) cv = some b ∧ P (.bl b) M
instance cb_isX {K : PySem.W.Frag} : CbD (rIsX K) (rIsXD K) := ⟨fun S M H vs ds P Q w hv h k => by
  obtain ⟨a, C, fs, c, cv, b, rfl, ha, E, hc, hk, p⟩ := h
  match vs, hv with
  | [v, u], .cons h0 (.cons h1 .nil) =>
    cases h0
    obtain ⟨_, oe, us, g1, g2, g3, g4⟩ := w.mem a _ ha
    refine ⟨a, C, oe, us, u, cv, b, rfl, g1, g2, g3, g4.imp (fun z => z.1) (fun ⟨dd, gs, e1, e2, e3, _⟩ => ⟨dd, gs, e1, e3⟩), E, fun u' r => ?_, hk, k _ S M _ H p .refl w (.bl b)⟩
    rcases hc with ⟨A, rfl, rfl⟩ | ⟨n, rfl, rfl⟩
    · cases h1
      exact r
    · cases h1
      exact r⟩
def dXf (K : PySem.W.Frag) (f : Str) (t : DE) : DE := fun δ M P => t δ M fun x M1 => ∃ (a C : Addr) (fs : List (Str × D)) (y : D), x = .ptr a ∧ M1 a = some (.xob C fs) ∧ XfC K C ∧ PySem.W.findIn K (.ref C) f = some none ∧ fs.lookup f = some y ∧ P y M1
instance pu_xfT {K : PySem.W.Frag} {f : Str} {te : TE} {dt : DE} [A : PuE te dt] : PuE (tXfT K f te) (dXf K f dt) := ⟨fun S M σ δ H P Q w e h k =>
  A.run S M σ δ H _ _ w e h fun d S1 M1 v H1 p1 t1 w1 h1 => by
    obtain ⟨a, C, fs, y, rfl, ha, X, hn, hl, p⟩ := p1
    cases h1
    obtain ⟨_, oe, us, g1, g2, g3, g4⟩ := w1.mem a _ ha
    rcases g4 with ⟨_, rfl⟩ | ⟨dd, gs, e1, e2, e3, e4, e5⟩
    · cases hl
    · obtain ⟨v, hv, hd⟩ := lookup_dt e4 e5 hl
      exact ⟨a, C, oe, us, dd, gs, v, rfl, g1, g2, g3, e1, e3, X, hn, hv, k _ S1 M1 _ H1 p t1 w1 hd⟩⟩
end V
namespace V
open PySem PySem.Spec PyProof.Rows L2 U StX
section
variable {X : Cx} {n x1 x2 x3 : Str} {c1 c2 c3 : Value} {i : Nat} {body suite : List Stmt} {b₀ : Stmt} {np1 np2 np3 tpos pos pos' : Pos} {cx : Nat} {tb : XK → TS} {ts : TS}
/-- what a clause with three classes wishes, its name in slot i -/
def wTry3as (K : PySem.W.Frag) (N i : Nat) (c1 c2 c3 : Value) (ts : TS) (D : Ends) : XK := fun cls d H => PySem.W.exmAny K cls [c1, c2, c3] = some true ∧ ∀ (σ : L2.St) (a : Addr) (oe : Obj) (us : Array Value), σ.length = N → H a = none → oe.cls = cls → oe.dict = d → oe.data = .fields us →
  ts { nx := fun σ' H' => D.nx (σ'.set i none) H', rt := D.rt, bk := fun σ' H' => D.bk (σ'.set i none) H', ct := fun σ' H' => D.ct (σ'.set i none) H' } (σ.set i (some (.ref a))) (upd H a (xObj oe))
def tTry3as (K : PySem.W.Frag) (N i : Nat) (c1 c2 c3 : Value) (tb : XK → TS) (ts : TS) : TS := fun D σ H => tb (wTry3as K N i c1 c2 c3 ts D) D σ H
def wTry3 (K : PySem.W.Frag) (N : Nat) (c1 c2 c3 : Value) (ts : TS) (D : Ends) : XK := fun cls d H => PySem.W.exmAny K cls [c1, c2, c3] = some true ∧ ∀ σ : L2.St, σ.length = N → ts D σ H
def tTry3 (K : PySem.W.Frag) (N : Nat) (c1 c2 c3 : Value) (tb : XK → TS) (ts : TS) : TS := fun D σ H => tb (wTry3 K N c1 c2 c3 ts D) D σ H
end
def sTry3 (K : PySem.W.Frag) (c1 c2 c3 : Value) (db : QX → DS) (ds : DS) : DS := fun nx rt bk ct δ M => db (fun C _ M' => PySem.W.exmAny K (.ref C) [c1, c2, c3] = some true ∧ ∀ n, ds nx rt bk ct (List.replicate n none) M') nx rt bk ct δ M
instance pu_try3 {K : PySem.W.Frag} {N : Nat} {c1 c2 c3 : Value} {tb : XK → TS} {ts : TS} {db : QX → DS} {ds : DS} [A : ∀ E, PuXS E (tb E) db] [B : PuS ts ds] : PuS (tTry3 K N c1 c2 c3 tb ts) (sTry3 K c1 c2 c3 db ds) := ⟨fun S M σ δ H nx rt bk ct D w e h l =>
  (A _).run S M σ δ H nx rt bk ct D _ w e h l fun C fs S' M' d H' q t w' _ => ⟨q.1, fun σ' hl => B.run S' M' σ' _ H' nx rt bk ct D w' (en_none σ') (q.2 σ'.length) (l.go t)⟩⟩
def sTry3as (K : PySem.W.Frag) (i : Nat) (c1 c2 c3 : Value) (db : QX → DS) (ds : DS) : DS := fun nx rt bk ct δ M => db (fun C fs M' => PySem.W.exmAny K (.ref C) [c1, c2, c3] = some true ∧ ∀ (n : Nat) (a : Addr), M' a = none →
  ds (fun δ' M'' => nx (δ'.set i none) M'') rt (fun δ' M'' => bk (δ'.set i none) M'') (fun δ' M'' => ct (δ'.set i none) M'') ((List.replicate n none).set i (some (.ptr a))) (mset M' a (.xob C fs))) nx rt bk ct δ M
theorem held_xob {S : Addr → Prop} {H : Hp} {a C : Addr} {fs : List (Str × D)} {oe : Obj} {us : Array Value} (na : H a = none) (e1 : oe.cls = .ref C) (e3 : oe.data = .fields us) (x : XF S H oe.dict fs) : Held (fun b => S b ∨ b = a) (upd H a (xObj oe)) a (.xob C fs) := by
  refine ⟨oe, us, upd_same, e1, e3, x.imp id fun ⟨dd, gs, h1, h2, h3, h4, h5⟩ => ?_⟩
  have nd : dd ≠ a := fun z => by rw [z, na] at h3; cases h3
  have f : ∀ b, ¬ S b → H b ≠ none → ¬ (S b ∨ b = a) := fun b n k z => z.elim n fun y => k (by rw [y]; exact na)
  exact ⟨dd, gs, h1, f dd h2 (by rw [h3]; exact fun z => nomatch z), by rw [upd_ne nd]; exact h3, h4, (DtA.set f _ h5).sm (Same.new na)⟩
instance pu_try3as {K : PySem.W.Frag} {N i : Nat} {c1 c2 c3 : Value} {tb : XK → TS} {ts : TS} {db : QX → DS} {ds : DS} [A : ∀ E, PuXS E (tb E) db] [B : PuS ts ds] : PuS (tTry3as K N i c1 c2 c3 tb ts) (sTry3as K i c1 c2 c3 db ds) := ⟨fun S M σ δ H nx rt bk ct D w e h l =>
  (A _).run S M σ δ H nx rt bk ct D _ w e h l fun C fs S' M' d H' q t w' xf => ⟨q.1, fun σ' a oe us hl na e1 e2 e3 => by
    subst e2
    have w2 := w'.mutable na (held_xob na e1 e3 xf)
    have t2 := t.trans (Step.mutable (S := S') (M := M') (mo := .xob C fs) (o := xObj oe) w' na)
    have l2 := l.go t2
    exact B.run _ _ _ _ _ _ _ _ _ _ w2 ((en_none σ').set (.ptr a)) (q.2 σ'.length a (w'.fresh na)) ⟨fun δ2 S2 M2 σ2 H2 p t w e => l2.nx _ S2 M2 _ H2 p t w e.unset, l2.rt, fun δ2 S2 M2 σ2 H2 p t w e => l2.bk _ S2 M2 _ H2 p t w e.unset, fun δ2 S2 M2 σ2 H2 p t w e => l2.ct _ S2 M2 _ H2 p t w e.unset⟩⟩⟩
end V
namespace V
open PySem PySem.Spec PyProof.Rows L2 U StX
section
variable {X : Cx}
def rCntF (K : PySem.W.Frag) : V → List V → Hp → VK → Prop := fun x xs H Q => ∃ (a : Addr) (ys : List V) (y : V), x = V.ref a ∧ xs = [y] ∧ SqL K H a ys ∧ flatV y = true ∧ ys.all flatV = true ∧ Q (.int (ys.countP (fun z => eqV z y) : Nat)) H
end
theorem bools_V {S : Addr → Prop} {H : Hp} : ∀ {vs : List V} {bs : List Bool}, DtA S H vs (bs.map D.bl) → vs = bs.map V.bl
  | [], [], _ => rfl
  | [], _ :: _, h => by cases h
  | _ :: _, [], h => by cases h
  | v :: vs, b :: bs, h => by
    cases h with
    | cons h1 h2 =>
      cases h1
      rw [bools_V h2]
      rfl
theorem bools_flat (bs : List Bool) : (bs.map V.bl).all flatV = true := by
  induction bs with
  | nil => rfl
  | cons b bs ih => rw [List.map_cons, List.all_cons, ih]; rfl
theorem eqV_bl (a b : Bool) : eqV (.bl a) (.bl b) = (a == b) := by cases a <;> cases b <;> rfl
theorem bools_count (bs : List Bool) (c : Bool) : (bs.map V.bl).countP (fun z => eqV z (.bl c)) = bs.count c := by
  induction bs with
  | nil => rfl
  | cons b bs ih => rw [List.map_cons, List.countP_cons, List.count_cons, ih, eqV_bl]
theorem bools_first : ∀ {bs : List Bool} {c : Bool}, c ∈ bs → bs[bs.idxOf c]? = some c ∧ ∀ m b, m < bs.idxOf c → bs[m]? = some b → b ≠ c
  | [], c, h => nomatch h
  | a :: bs, c, h => by
    by_cases e : a = c
    · subst e
      rw [List.idxOf_cons_self]
      exact ⟨rfl, fun m b hm => by omega⟩
    · have hc : c ∈ bs := (List.mem_cons.mp h).resolve_left fun z => e z.symm
      obtain ⟨h1, h2⟩ := bools_first hc
      rw [List.idxOf_cons, show (a == c) = false from beq_eq_false_iff_ne.mpr e]
      refine ⟨h1, fun m b hm hb => ?_⟩
      cases m with
      | zero =>
        cases hb
        exact e
      | succ m => exact h2 m b (by simpa using hm) hb
def dCntB (a : DE) (b : DA) : DE := fun δ M P => a δ M fun x M1 => ∃ bs : List Bool, x = .lst (bs.map D.bl) ∧ b δ M1 fun ys M2 => ∃ c, ys = [.bl c] ∧ P (.int (bs.count c : Nat)) M2
instance pu_cntB {K : PySem.W.Frag} {ta : TE} {tb : TA} {da : DE} {db : DA} [A : PuE ta da] [B : PuA tb db] : PuE (tBM K "list" (rCntF K) ta tb) (dCntB da db) := ⟨fun S M σ δ H P Q w e h k =>
  A.run S M σ δ H _ _ w e h fun d S1 M1 v H1 p1 t1 w1 h1 => by
    obtain ⟨bs, rfl, p1⟩ := p1
    have h1' := h1
    cases h1 with
    | lst n ha hs =>
      rename_i a vs
      refine ⟨.inl ⟨rfl, _, SqL.of ha⟩, B.run S1 M1 σ δ H1 _ _ w1 (e.step w t1) p1 fun d2 S2 M2 v2 H2 p2 t2 w2 h2 => ?_⟩
      obtain ⟨c, rfl, p2⟩ := p2
      have h3 := dt_step w1 t2 _ h1'
      cases h3 with
      | lst n2 ha2 hs2 =>
        have ev := bools_V hs2
        subst ev
        match v2, h2 with
        | [_], .cons (.bl _) .nil => exact ⟨a, _, .bl c, rfl, rfl, SqL.of ha2, rfl, bools_flat bs, by rw [bools_count]; exact k _ S2 M2 _ H2 p2 (t1.trans t2) w2 (.int _)⟩⟩
def dIdxB (a : DE) (b : DA) : DE := fun δ M P => a δ M fun x M1 => ∃ bs : List Bool, x = .lst (bs.map D.bl) ∧ b δ M1 fun ys M2 => ∃ c, ys = [.bl c] ∧ c ∈ bs ∧ P (.int (bs.idxOf c : Nat)) M2
instance pu_idxB {K : PySem.W.Frag} {ta : TE} {tb : TA} {da : DE} {db : DA} [A : PuE ta da] [B : PuA tb db] : PuE (tBM K "list" (rIndex K) ta tb) (dIdxB da db) := ⟨fun S M σ δ H P Q w e h k =>
  A.run S M σ δ H _ _ w e h fun d S1 M1 v H1 p1 t1 w1 h1 => by
    obtain ⟨bs, rfl, p1⟩ := p1
    have h1' := h1
    cases h1 with
    | lst n ha hs =>
      rename_i a vs
      refine ⟨.inl ⟨rfl, _, SqL.of ha⟩, B.run S1 M1 σ δ H1 _ _ w1 (e.step w t1) p1 fun d2 S2 M2 v2 H2 p2 t2 w2 h2 => ?_⟩
      obtain ⟨c, rfl, hm, p2⟩ := p2
      have h3 := dt_step w1 t2 _ h1'
      cases h3 with
      | lst n2 ha2 hs2 =>
        have ev := bools_V hs2
        subst ev
        obtain ⟨g1, g2⟩ := bools_first hm
        match v2, h2 with
        | [_], .cons (.bl _) .nil => exact ⟨a, _, .bl c, bs.idxOf c, .bl c, rfl, rfl, SqL.of ha2, rfl, bools_flat bs, by rw [List.getElem?_map, g1]; rfl, by rw [eqV_bl]; exact beq_self_eq_true c, fun m z' hm2 hz => by
            rw [List.getElem?_map] at hz
            obtain ⟨b, hb, rfl⟩ := Option.map_eq_some_iff.mp hz
            rw [eqV_bl]
            exact beq_eq_false_iff_ne.mpr (g2 m b hm2 hb), k _ S2 M2 _ H2 p2 (t1.trans t2) w2 (.int _)⟩⟩
/-- what is told of an error -/
def triedX (K : PySem.W.Frag) (c1 c2 c3 : Value) (sp : Sp) (Q : VK) : XK := fun cls d H => PySem.W.exmAny K cls [c1, c2, c3] = some true ∧ ∀ (a : Addr) (oe : Obj) (us : Array Value), H a = none → oe.cls = cls → oe.dict = d → oe.data = .fields us → sp [.ref a] (upd H a (xObj oe)) Q C8.E0
def toldX (Q : VK) (v : V) (H : Hp) : Prop := ∀ p, H p = none → Q (.ref p) (upd H p (.tup [.str (Str.ofString "told"), v]))
def TTtried (K : PySem.W.Frag) (c1 c2 c3 : Value) (sp : Sp) : (XK → Hp → VK → Prop) → Hp → VK → Prop := fun tl H Q => ∀ K2 : VK, (∀ v H', toldX Q v H' → K2 v H') → tl (triedX K c1 c2 c3 sp Q) H K2
/-- over data -/
def triedQ (K : PySem.W.Frag) (c1 c2 c3 : Value) (sd : DC) (R : QD) : QX := fun C fs M => PySem.W.exmAny K (.ref C) [c1, c2, c3] = some true ∧ ∀ a, M a = none → sd [.ptr a] (mset M a (.xob C fs)) fun d M' => ∃ M0, Mle M0 M' ∧ R d M0
def dLamT (P : Addr) (q : Str) (K : PySem.W.Frag) (c1 c2 c3 : Value) (sd : DC) (dt : QX → DE) : DE := fun δ M R => M P = some (.tab q) ∧ dt (triedQ K c1 c2 c3 sd R) δ M fun d M' => R (.tup [.str (Str.ofString "told"), d]) M'
instance pu_lamT {P : Addr} {q : Str} {K : PySem.W.Frag} {c1 c2 c3 : Value} {sd : DC} {t : XK → TE} {dt : QX → DE} [A : ∀ E, PuXE E (t E) dt] : PuE (tLamP P q (TTtried K c1 c2 c3 (lift sd)) t) (dLamT P q K c1 c2 c3 sd dt) := ⟨fun S M σ δ H R Q w e h k => by
  obtain ⟨hm, h⟩ := h
  obtain ⟨ps, hP, ht, ha⟩ := (w.mem P _ hm).2
  refine ⟨⟨ps, hP, ht, fun pos cv hc => let ⟨c, a1, a2, _⟩ := ha pos cv hc; ⟨c, a1, a2⟩⟩, fun H1 l K2 hK => ?_⟩
  obtain ⟨w1, t1⟩ := lam_to w hm l
  refine (A _).run S M σ δ H1 _ (triedQ K c1 c2 c3 sd R) _ w1 (e.step w t1) h (fun d S2 M2 v H2 r t2 w2 hd => hK _ _ fun p np => ?_) (fun C fs S2 M2 d H2 r t2 w2 xf => ?_)
  · exact k _ _ _ _ _ r ((t1.trans t2).trans (.new np)) (w2.new np) (.tup (w2.ns np) upd_same ((DtA.cons (.str _) (.cons hd .nil)).sm (Same.new np)))
  · refine ⟨r.1, fun a oe us na e1 e2 e3 => ?_⟩
    subst e2
    have w3 := w2.mutable na (held_xob na e1 e3 xf)
    have t3 := (t1.trans t2).trans (Step.mutable (S := S2) (M := M2) (mo := .xob C fs) (o := xObj oe) w2 na)
    exact ⟨_, _, _, _, w3, .cons (.ptr a) .nil, r.2 a (w2.fresh na), fun d' S' M' v' H' ⟨M0, l0, r0⟩ t' w' hv => k d' S' M0 v' H' r0 ((t3.trans t').less l0) (w'.drop l0) hv⟩⟩
end V
namespace V
open PySem PySem.Spec PyProof.Rows L2 U StX
section
variable {X : Cx} {n : Nat} {f : Addr} {fd : FuncData} {ps : List Str} {C : Addr} {sp : Sp}
/-- repr(x) by an own __repr__ -/
def rReprO (C : Addr) (sp : Sp) : List V → Hp → VK → Prop := fun xs H Q => ∃ (a : Addr) (dx : Addr) (fs : List (Str × V)), xs = [.ref a] ∧ H a = some (.ins C dx fs) ∧ sp [.ref a] H (fun v H' => ∃ z : Str, v = .str z ∧ Q (.str z) H') L2.E0
end
def rReprO1 (C : Addr) (sp : DC) : DC := fun ds M P => ∃ d ns xs, ds = [d] ∧ isIn M d C ns xs ∧ sp [d] M fun e M' => ∃ z : Str, e = .str z ∧ P (.str z) M'
instance cb_reprO {C : Addr} {sp : DC} : CbD (rReprO C (lift sp)) (rReprO1 C sp) := ⟨fun S M H vs ds P Q w hv h k => by
  obtain ⟨d, ns, xs, rfl, hm, q⟩ := h
  match vs, hv with
  | [v], .cons h1 .nil =>
    obtain ⟨a, dx, fs', rfl, ha, _, _⟩ := in_get w h1 hm
    refine ⟨a, dx, fs', rfl, ha, S, M, [d], _, w, .cons h1 .nil, q, fun d S' M' v' H' e st w' hd => ?_⟩
    obtain ⟨z, rfl, pp⟩ := e
    cases hd
    exact ⟨z, rfl, k _ S' M' _ H' pp st w' (.str z)⟩⟩
section
variable {X : Cx} {pins : List (Addr × Obj)} {σ : L2.St} {H : Hp} {s : Shared} {n : Nat} {f : Addr} {fd : FuncData} {ps : List Str} {sp : Sp} {a C : Addr} {y : V} {v : Value} {Q : VK}
inductive Oth2 (C : Addr) (H : Hp) : V → Value → Prop
  | of {y : V} {t : Value} : Oth C H y t → Oth2 C H y t
  | int (i : Int) : Oth2 C H (.int i) (.type "int")
  | lst {b : Addr} {xs : List V} : H b = some (.lst xs) → Oth2 C H (.ref b) (.type "list")
structure NoSub2 (K : PySem.W.Frag) (C : Addr) : Prop where
  no : NoSub K C
  int : PySem.W.subIn K (.type "int") (.ref C) = some false
  lst : PySem.W.subIn K (.type "list") (.ref C) = some false
theorem NoSub2.first {K : PySem.W.Frag} {tb : Value} (N : NoSub2 K C) (o : Oth2 C H y tb) : PySem.W.notFirst K C tb = true := by
  cases o with
  | of o => exact N.no.first o
  | int i => unfold PySem.W.notFirst; rw [N.int]; rfl
  | lst h => unfold PySem.W.notFirst; rw [N.lst]; rfl
def rEqOwn2 (C : Addr) (sp : Sp) : R2 := fun x y H Q => ∃ a dx fs tb, x = V.ref a ∧ H a = some (.ins C dx fs) ∧ Oth2 C H y tb ∧ sp [.ref a, y] H (fun v H' => ∃ t, v = V.bl t ∧ Q (.bl t) H') L2.E0
end
def othD (C : Addr) (y : D) : Prop := y = .non ∨ (∃ z, y = .str z) ∨ (∃ i, y = .int i) ∨ (∃ ys, y = .tup ys) ∨ (∃ ys, y = .lst ys) ∨ ∃ n2 x2, y = .ins C n2 x2
def rEqOwnD2 (C : Addr) (sp : DC) : DR := fun x y M P => ∃ n1 x1, x = .ins C n1 x1 ∧ othD C y ∧ sp [x, y] M fun d M' => ∃ t, d = .bl t ∧ P (.bl t) M'
instance op_eqOwnD2 {C : Addr} {sp : DC} : OpD (rEqOwn2 C (lift sp)) (rEqOwnD2 C sp) := ⟨fun S M H x y dx dy P Q w hx hy h k => by
  obtain ⟨n1, x1, rfl, hyk, h⟩ := h
  have gx := hx
  have gy := hy
  have fin : ∀ {a : Addr}, Dt S H (.ref a) (.ins C n1 x1) → lift sp [.ref a, y] H (fun v H' => ∃ t, v = V.bl t ∧ Q (.bl t) H') L2.E0 := fun {a} ha => ⟨S, M, _, _, w, .cons ha (.cons gy .nil), h, fun d S' M' v H' p t w' hv => by
    obtain ⟨b, rfl, p⟩ := p
    cases hv
    exact ⟨b, rfl, k _ S' M' _ H' p t w' (.bl _)⟩⟩
  cases hx with
  | ins _ ha _ _ =>
    rcases hyk with rfl | ⟨z, rfl⟩ | ⟨i, rfl⟩ | ⟨ys, rfl⟩ | ⟨ys, rfl⟩ | ⟨n2, x2, rfl⟩
    · cases hy
      exact ⟨_, _, _, _, rfl, ha, .of .non, fin gx⟩
    · cases hy
      exact ⟨_, _, _, _, rfl, ha, .of (.str z), fin gx⟩
    · cases hy
      exact ⟨_, _, _, _, rfl, ha, .int i, fin gx⟩
    · cases hy with
      | tup _ hb _ => exact ⟨_, _, _, _, rfl, ha, .of (.tup hb), fin gx⟩
    · cases hy with
      | lst _ hb _ => exact ⟨_, _, _, _, rfl, ha, .lst hb, fin gx⟩
    · cases hy with
      | ins _ hb _ _ => exact ⟨_, _, _, _, rfl, ha, .of (.ins hb), fin gx⟩⟩
instance (priority := low) pu_makeF10n {n : Nat} {E : XK} {C : Addr} {sp : DC} {tk : TA} {dk : DA} [B : PuA tk dk] : PuE (tMakeK C 0 n (liftF sp) (fun us ws => us ++ pk1_0 ws) E tNil tk) (dMakeK (rMakeF C sp) d10 n dk) := ⟨fun S M σ δ H P Q w e h k =>
  B.run S M σ δ H _ _ w e h fun es S2 M2 zs H2 p2 t2 w2 h2 => ⟨rfl, by rw [h2.length]; exact p2.1, fun x dx nx nd ne => makeF_go w2 (pk1_0_dt h2) p2.2 (k.go t2) nx nd ne⟩⟩
end V
namespace V
end V
namespace V.XA
open PySem PySem.Spec PySem.W PySem.Calls PyProof.Rows PySem.HandSPX Builtin Builtin.ObjectAttr
end V.XA
namespace V
open PySem PySem.Spec PyProof.Rows L2 U StX
section
variable {X : Cx} {x f : Str} {C fI : Addr} {k : Nat} {fd : FuncData} {ps : List Str} {sp : Sp} {ds : List Value} {dvs : List V} {p pos pos' : Pos} {e : Expr} {es : List Expr} {ta : TA} {te : TE} {B newId initId : String} {tl : List Value} {E : XK}
def tRaise0 (E : XK) (C : Addr) : TS := fun _ _ H => E (.ref C) none H
end
def sRaise0 (C : Addr) (q : QX) : DS := fun _ _ _ _ _ M => q C [] M
instance pux_raise0 {E : XK} {C : Addr} : PuXS E (tRaise0 E C) (fun q => sRaise0 C q) := ⟨fun S M σ δ H nx rt bk ct D q w e h l x => x C [] S M none H h .refl w (.inl ⟨rfl, rfl⟩)⟩
end V
namespace V
open PySem PySem.Spec PyProof.Rows L2 U StX
def dMethX (C : Addr) (m : Str) (sp : DCX) (q : QX) (a : DE) (b : DA) : DE := fun δ M P => a δ M fun x M1 => (∃ ns xs, isIn M1 x C ns xs ∧ m ∉ ns) ∧ b δ M1 fun ds M2 => sp (x :: ds) M2 P q
instance pux_meth {E : XK} {C : Addr} {m : Str} {sp : DCX} {ta : TE} {t : TA} {da : DE} {dt : DA} [A : PuE ta da] [B : PuA t dt] : PuXE E (tMeth C m (liftX sp) [] E ta t) (fun q => dMethX C m sp q da dt) := ⟨fun S M σ δ H P q Q w e h k x =>
  A.run S M σ δ H _ _ w e h fun d S1 M1 v H1 p1 t1 w1 h1 => by
    obtain ⟨⟨ns, xs, hi, hm⟩, p1⟩ := p1
    obtain ⟨a, dx, fs, rfl, ha, hn, hs⟩ := in_get w1 h1 hi
    refine ⟨a, dx, fs, rfl, ha, lookup_none (by rw [hn]; exact hm), B.run S1 M1 σ δ H1 _ _ w1 (e.step w t1) p1 fun ds S2 M2 vs H2 p2 t2 w2 h2 => ?_⟩
    rw [List.append_nil]
    exact ⟨S2, M2, d :: ds, P, q, w2, .cons (dt_step w1 t2 _ h1) h2, p2, k.go (t1.trans t2), x.go (t1.trans t2)⟩⟩
end V
namespace V.BO
open PySem PySem.Spec PySem.W PySem.Calls PyProof.Rows
end V.BO
namespace V
open PySem PySem.Spec PyProof.Rows L2 U StX
section
variable {X : Cx} {n : Nat} {f : Addr} {fd : FuncData} {ps : List Str} {C : Addr} {sp : Sp}
def rBoolO (C : Addr) (sp : Sp) : List V → Hp → VK → Prop := fun xs H Q => ∃ (a : Addr) (dx : Addr) (fs : List (Str × V)), xs = [.ref a] ∧ H a = some (.ins C dx fs) ∧ sp [.ref a] H (fun v H' => ∃ m : Int, v = .int m ∧ 0 ≤ m ∧ m < 2 ^ 63 ∧ Q (.bl (m != 0)) H') L2.E0
end
def rBoolO1 (C : Addr) (sp : DC) : DC := fun ds M P => ∃ d ns xs, ds = [d] ∧ isIn M d C ns xs ∧ sp [d] M fun e M' => ∃ m : Int, e = .int m ∧ 0 ≤ m ∧ m < 2 ^ 63 ∧ P (.bl (m != 0)) M'
instance cb_boolO {C : Addr} {sp : DC} : CbD (rBoolO C (lift sp)) (rBoolO1 C sp) := ⟨fun S M H vs ds P Q w hv h k => by
  obtain ⟨d, ns, xs, rfl, hm, q⟩ := h
  match vs, hv with
  | [v], .cons h1 .nil =>
    obtain ⟨a, dx, fs', rfl, ha, _, _⟩ := in_get w h1 hm
    refine ⟨a, dx, fs', rfl, ha, S, M, [d], _, w, .cons h1 .nil, q, fun d S' M' v' H' e st w' hd => ?_⟩
    obtain ⟨m, rfl, k0, k1, pp⟩ := e
    cases hd
    exact ⟨m, rfl, k0, k1, k _ S' M' _ H' pp st w' (.bl _)⟩⟩
end V
namespace V
open PySem PySem.Spec PyProof.Rows L2 U StX
def IsR (K : PySem.W.Frag) (d : D) (p : PyData) : Prop := ∀ (S : Addr → Prop) (H : Hp) (v : V), Dt S H v d → Dq K H v p
def IsRs (K : PySem.W.Frag) (ds : List D) (ps : List PyData) : Prop := ∀ (S : Addr → Prop) (H : Hp) (vs : List V), DtA S H vs ds → DqAll K H vs ps
structure OkR (K : PySem.W.Frag) (W k : Nat) (d : D) (p : PyData) : Prop where
  is : IsR K d p
  ok : PyQ W k p
structure OkRs (K : PySem.W.Frag) (W k : Nat) (ds : List D) (ps : List PyData) : Prop where
  is : IsRs K ds ps
  ok : PysQ W k ps
section
variable {K : PySem.W.Frag} {W W' k k' : Nat} {d : D} {p : PyData} {ds : List D} {ps : List PyData}
theorem OkR.of (q : IsQ d p) (h : PyQ W k p) : OkR K W k d p := ⟨fun _ _ _ hd => isQ_dq q hd, h⟩
theorem OkR.mono (h : OkR K W k d p) (hw : W ≤ W') (hk : k ≤ k') : OkR K W' k' d p := ⟨h.is, h.ok.lv, h.ok.sh, Nat.le_trans h.ok.dep hk, Nat.le_trans h.ok.wt hw⟩
theorem OkRs.nil (W k : Nat) : OkRs K W k [] [] := ⟨fun _ _ _ h => by cases h; exact .nil, rfl, rfl, Nat.zero_le _, Nat.zero_le _⟩
theorem OkRs.cons : OkR K W k d p → OkRs K W' k ds ps → OkRs K (W + 1 + W') k (d :: ds) (p :: ps) := fun ⟨e, a⟩ ⟨e2, b⟩ => by
  obtain ⟨a1, a2, a3, a4⟩ := a
  obtain ⟨b1, b2, b3, b4⟩ := b
  refine ⟨fun S H vs h => ?_, ?_, ?_, ?_, ?_⟩
  · cases h with
    | cons h1 h2 => exact .cons (e _ _ _ h1) (e2 _ _ _ h2)
  · rw [PyData.leavesShortAll, a1, b1]; rfl
  · rw [PyData.showableAll, a2, b2]; rfl
  · rw [PyData.depthAll]; omega
  · rw [PyData.weightAll]; omega
theorem OkRs.list (h : OkRs K W k ds ps) : OkR K W (k + 1) (.lst ds) (.list ps) := ⟨fun S H v hd => by
  cases hd with
  | lst n ha hs => exact .lst (SqL.of ha) (h.is _ _ _ hs), by rw [PyData.leavesShort]; exact h.ok.lv, by rw [PyData.showable]; exact h.ok.sh, by rw [PyData.depth]; have := h.ok.dep; omega, by rw [PyData.weight]; exact h.ok.wt⟩
theorem OkRs.tuple (h : OkRs K W k ds ps) : OkR K W (k + 1) (.tup ds) (.tuple ps) := ⟨fun S H v hd => by
  cases hd with
  | tup n ha hs => exact .tup (SqT.of ha) (h.is _ _ _ hs), by rw [PyData.leavesShort]; exact h.ok.lv, by rw [PyData.showable]; exact h.ok.sh, by rw [PyData.depth]; have := h.ok.dep; omega, by rw [PyData.weight]; exact h.ok.wt⟩
theorem OkR.str {z : Str} {n : Nat} (h : ∀ c ∈ cd z, c < 0x110000) (hn : (cd z).length ≤ n) : OkR K n 0 (.str z) (.str z) := by
  obtain ⟨p, e, a⟩ := okQ.str h hn
  cases e
  exact .of (.str z) a
theorem OkR.int {i : Int} {b : Nat} (h : i.natAbs < 2 ^ b) (h0 : 0 < b := by decide) (hb : b ≤ 900 := by decide) : OkR K b 0 (.int i) (.int i) := by
  obtain ⟨p, e, a⟩ := okQ.int h h0 hb
  cases e
  exact .of (.int i) a
theorem OkR.bl (b : Bool) : OkR K 0 0 (.bl b) (.bool b) := by
  obtain ⟨p, e, a⟩ := okQ.bl b
  cases e
  exact .of (.bl b) a
theorem OkR.non : OkR K 0 0 .non .none := by
  obtain ⟨p, e, a⟩ := okQ.non
  cases e
  exact .of .non a
end
def rReprR1 (K : PySem.W.Frag) : DC := fun ds M P => ∃ d p, ds = [d] ∧ IsR K d p ∧ M sysModules = some .sys ∧ PyData.showable p = true ∧ PyData.depth p ≤ 40 ∧ (PyData.shown p).length ≤ sizeLine ∧ P (.str (PyData.shown p)) M
instance (priority := high) cb_reprR {K : PySem.W.Frag} : CbD (rReprQ K) (rReprR1 K) := ⟨fun S M H vs ds P Q w hv h k => by
  obtain ⟨d, p, rfl, e, hm, h1, h3, h4, q⟩ := h
  have hsys : SysK H := (w.mem _ _ hm).2
  match vs, hv with
  | [v], .cons h0 .nil => exact ⟨v, p, rfl, e _ _ _ h0, h1, hsys, h3, h4, k _ S M _ H q .refl w (.str _)⟩⟩
end V
namespace V
open PySem PySem.Spec PyProof.Rows L2 U StX
def dFmtR (a : DE) : DE := fun δ M P => a δ M fun x M1 => match x with
  | .str y => (reprText y).length ≤ sizeLine ∧ P (.str (reprText y)) M1
  | .int i => i.natAbs.log2 < 1920 ∧ P (.str (Str.ofString (toString i))) M1
  | _ => False
instance pu_fmtR {ta : TE} {da : DE} [A : PuE ta da] : PuE (tFmtR ta) (dFmtR da) := ⟨fun S M σ δ H P Q w e h k =>
  A.run S M σ δ H _ _ w e h fun d S1 M1 v H1 p1 t1 w1 h1 => by
    split at p1
    · cases h1
      exact .inl ⟨_, rfl, p1.1, k _ S1 M1 _ H1 p1.2 t1 w1 (.str _)⟩
    · cases h1
      exact .inr ⟨_, rfl, p1.1, k _ S1 M1 _ H1 p1.2 t1 w1 (.str _)⟩
    · exact p1.elim⟩
section
variable {X : Cx} {C : Addr}
/-- bool(x) of an instance that has neither a __bool__ nor a __len__ -/
def rBoolP (C : Addr) : List V → Hp → VK → Prop := fun xs H Q => ∃ (a : Addr) (dx : Addr) (fs : List (Str × V)), xs = [.ref a] ∧ H a = some (.ins C dx fs) ∧ Q (.bl true) H
def rBoolP1 (C : Addr) : DC := fun ds M P => ∃ d ns xs, ds = [d] ∧ isIn M d C ns xs ∧ P (.bl true) M
instance cb_boolP {C : Addr} : CbD (rBoolP C) (rBoolP1 C) := ⟨fun S M H vs ds P Q w hv h k => by
  obtain ⟨d, ns, xs, rfl, hm, q⟩ := h
  match vs, hv with
  | [v], .cons h1 .nil =>
    obtain ⟨a, dx, fs', rfl, ha, _, _⟩ := in_get w h1 hm
    exact ⟨a, dx, fs', rfl, ha, k _ S M _ H q .refl w (.bl _)⟩⟩
end
instance (priority := low) pu_makeF3210n {n : Nat} {E : XK} {C : Addr} {sp : DC} {tk : TA} {dk : DA} [B : PuA tk dk] : PuE (tMakeK C 0 n (liftF sp) (fun us ws => us ++ pk3_2_1_0 ws) E tNil tk) (dMakeK (rMakeF C sp) d3210 n dk) := ⟨fun S M σ δ H P Q w e h k =>
  B.run S M σ δ H _ _ w e h fun es S2 M2 zs H2 p2 t2 w2 h2 => ⟨rfl, by rw [h2.length]; exact p2.1, fun x dx nx nd ne => makeF_go w2 (pk3_2_1_0_dt h2) p2.2 (k.go t2) nx nd ne⟩⟩
end V
namespace V
open PySem PySem.Spec PyProof.Rows L2 U StX
end V
namespace V
open PySem PySem.Spec PyProof.Rows L2 U StX
theorem pg_lstK {K : PySem.W.Frag} {X : Cx} (h : X.K = K) {es : List Expr} {k : Nat} {pos : Pos} {t : TGs} {n : Nat} (hc : X.calm = true) (ht : PGs X es t) (hn : (assignEach es X.env).length = n := by rfl) (hst : (assignEach es X.env).findIdx? (·.1) = none := by rfl) : PG X (.Tuple es k pos) (gLst K n t) := by
  subst h
  exact pg_lst hc ht hn hst
def dgL (n : Nat) (g : DGs) : DG := fun d δ M P => ∃ xs, d = .lst xs ∧ xs.length = n ∧ g xs δ M P
instance pu_gLst {K : PySem.W.Frag} {n : Nat} {gs : TGs} {dgs : DGs} {s : List Nat} [A : PuGs gs dgs s] : PuG (gLst K n gs) (dgL n dgs) s := ⟨fun S M σ δ H v d P R w e h p k => by
  obtain ⟨xs, rfl, hl, p⟩ := p
  cases h with
  | lst n ha hs => exact ⟨_, _, rfl, SqL.of ha, by rw [hs.length]; exact hl, A.run S M σ δ H _ xs P R w e hs p k⟩⟩
theorem x_gL {n : Nat} {gs : DGs} {xs : List D} {δ : Dl} {M : Mem} {nx : Dl → Mem → Prop} (h : xs.length = n) (q : gs xs δ M nx) : dgL n gs (.lst xs) δ M nx := ⟨xs, rfl, h, q⟩
end V
namespace V
open PySem PySem.Spec PyProof.Rows L2 U StX
def rNinS : R2 := fun x y H Q => ∃ i j, x = .str i ∧ y = .str j ∧ Q (.bl (!(!(Builtin.Str.occurrences j i 0 j.length 1).isEmpty))) H
def foundS (i j : Str) : Bool := !(Builtin.Str.occurrences j i 0 j.length 1).isEmpty
def rNinSD : DR := fun x y M P => ∃ i j, x = .str i ∧ y = .str j ∧ P (.bl (!foundS i j)) M
instance op_ninSD : OpD rNinS rNinSD := ⟨fun S M H x y dx dy P Q w hx hy h k => by
  obtain ⟨i, j, rfl, rfl, q⟩ := h
  cases hx
  cases hy
  exact ⟨i, j, rfl, rfl, k _ S M _ H q .refl w (.bl _)⟩⟩
end V
namespace V
open PySem PySem.Spec PyProof.Rows L2 U StX
def liftK (sp : DC) : List V → List V → Hp → VK → XK → Prop := fun vs kvs H Q E => ∃ x rest u, vs = x :: rest ∧ kvs = [u] ∧ rest.length ≤ sizeLine ∧ ∀ p, H p = none → lift sp [x, u, V.ref p] (upd H p (.tup rest)) Q E
/-- o.m(.., b = ..) -/
def tMethK (C : Addr) (m : Str) (sp : List V → List V → Hp → VK → XK → Prop) (E : XK) (ta : TE) (t tk : TA) : TE := fun σ H Q => ta σ H fun x H1 => ∃ a dx fs, x = .ref a ∧ H1 a = some (.ins C dx fs) ∧ fs.lookup m = none ∧
  t σ H1 fun vs H2 => tk σ H2 fun kvs H3 => vs.length ≤ 1000 ∧ kvs.length ≤ 1000 ∧ sp (x :: vs) kvs H3 Q E
/-- over data: the values left over are a tuple -/
def dMethK (C : Addr) (m : Str) (sp : DC) (a : DE) (t tk : DA) : DE := fun δ M P => a δ M fun x M1 => (∃ ns xs, isIn M1 x C ns xs ∧ m ∉ ns) ∧ t δ M1 fun ds M2 => tk δ M2 fun es M3 => ds.length ≤ 1000 ∧ ∃ u, es = [u] ∧ sp [x, u, .tup ds] M3 P
instance pu_methK {E : XK} {C : Addr} {m : Str} {sp : DC} {ta : TE} {t tk : TA} {da : DE} {dt dk : DA} [A : PuE ta da] [B : PuA t dt] [G : PuA tk dk] : PuE (tMethK C m (liftK sp) E ta t tk) (dMethK C m sp da dt dk) := ⟨fun S M σ δ H P Q w e h k =>
  A.run S M σ δ H _ _ w e h fun d S1 M1 v H1 p1 t1 w1 h1 => by
    obtain ⟨⟨ns, xs, hi, hm⟩, p1⟩ := p1
    obtain ⟨a, dx, fs, rfl, ha, hn, hs⟩ := in_get w1 h1 hi
    refine ⟨a, dx, fs, rfl, ha, lookup_none (by rw [hn]; exact hm), B.run S1 M1 σ δ H1 _ _ w1 (e.step w t1) p1 fun ds S2 M2 vs H2 p2 t2 w2 h2 => ?_⟩
    refine G.run S2 M2 σ δ H2 _ _ w2 (e.step w (t1.trans t2)) p2 fun es S3 M3 zs H3 p3 t3 w3 h3 => ?_
    obtain ⟨hl, u, rfl, q⟩ := p3
    match zs, h3 with
    | [zu], .cons hu .nil =>
      have h23 := dtA_step w2 t3 _ h2
      have h13 := dt_step w1 (t2.trans t3) _ h1
      refine ⟨by rw [h2.length]; exact hl, by simp, _, vs, zu, rfl, rfl, by rw [h2.length, sizeLine_eq]; omega, fun p hp => ?_⟩
      have t4 : Step S3 M3 H3 S3 M3 (upd H3 p (.tup vs)) := .new hp
      have w4 := w3.new (o := .tup vs) hp
      exact ⟨S3, M3, [d, u, .tup ds], P, w4, .cons (dt_step w3 t4 _ h13) (.cons (dt_step w3 t4 _ hu) (.cons (.tup (w3.ns hp) upd_same (h23.sm (Same.new hp))) .nil)), q, k.go (((t1.trans t2).trans t3).trans t4)⟩⟩
def tTryFin (tb tf : TS) : TS := fun D σ H => tb { nx := fun σ1 H1 => tf D σ1 H1, rt := fun _ _ => False } σ H
def sTryFin (b f : DS) : DS := fun nx rt bk ct δ M => b (fun δ1 M1 => f nx rt bk ct δ1 M1) (fun _ _ => False) (fun _ _ => False) (fun _ _ => False) δ M
instance pu_tryFin {tb tf : TS} {db df : DS} [A : PuS tb db] [B : PuS tf df] : PuS (tTryFin tb tf) (sTryFin db df) := ⟨fun S M σ δ H nx rt bk ct D w e h l =>
  A.run S M σ δ H _ _ _ _ _ w e h ⟨fun δ1 S1 M1 σ1 H1 p1 t1 w1 e1 => B.run S1 M1 σ1 δ1 H1 nx rt bk ct D w1 e1 p1 (l.go t1), fun _ _ _ _ _ q => q.elim, fun _ _ _ _ _ q => q.elim, fun _ _ _ _ _ q => q.elim⟩⟩
end V
namespace V
open PySem PySem.Spec PyProof.Rows L2 U StX
def liftK0 (sp : DC) : List V → List V → Hp → VK → XK → Prop := fun vs kvs H Q E => ∃ x rest, vs = x :: rest ∧ kvs = [] ∧ rest.length ≤ sizeLine ∧ ∀ p, H p = none → lift sp [x, .non, V.ref p] (upd H p (.tup rest)) Q E
/-- over data -/
def dMethK0 (C : Addr) (m : Str) (sp : DC) (a : DE) (t : DA) : DE := fun δ M P => a δ M fun x M1 => (∃ ns xs, isIn M1 x C ns xs ∧ m ∉ ns) ∧ t δ M1 fun ds M2 => ds.length ≤ 1000 ∧ sp [x, .non, .tup ds] M2 P
instance pu_methK0 {E : XK} {C : Addr} {m : Str} {sp : DC} {ta : TE} {t : TA} {da : DE} {dt : DA} [A : PuE ta da] [B : PuA t dt] : PuE (tMethK C m (liftK0 sp) E ta t tNil) (dMethK0 C m sp da dt) := ⟨fun S M σ δ H P Q w e h k =>
  A.run S M σ δ H _ _ w e h fun d S1 M1 v H1 p1 t1 w1 h1 => by
    obtain ⟨⟨ns, xs, hi, hm⟩, p1⟩ := p1
    obtain ⟨a, dx, fs, rfl, ha, hn, hs⟩ := in_get w1 h1 hi
    refine ⟨a, dx, fs, rfl, ha, lookup_none (by rw [hn]; exact hm), B.run S1 M1 σ δ H1 _ _ w1 (e.step w t1) p1 fun ds S2 M2 vs H2 p2 t2 w2 h2 => ?_⟩
    obtain ⟨hl, q⟩ := p2
    refine ⟨by rw [h2.length]; exact hl, by simp, _, vs, rfl, rfl, by rw [h2.length, sizeLine_eq]; omega, fun p hp => ?_⟩
    have t4 : Step S2 M2 H2 S2 M2 (upd H2 p (.tup vs)) := .new hp
    have w4 := w2.new (o := .tup vs) hp
    exact ⟨S2, M2, [d, .non, .tup ds], P, w4, .cons (dt_step w2 t4 _ (dt_step w1 t2 _ h1)) (.cons .non (.cons (.tup (w2.ns hp) upd_same (h2.sm (Same.new hp))) .nil)), q, k.go ((t1.trans t2).trans t4)⟩⟩
def dPop (a : DE) : DE := fun δ M P => a δ M fun x M1 => ∃ l xs d, x = .ptr l ∧ M1 l = some (.lst xs) ∧ xs[xs.length - 1]? = some d ∧ P d (mset M1 l (.lst xs.dropLast))
theorem dtA_init {S : Addr → Prop} {H : Hp} : ∀ {vs : List V} {ds : List D}, DtA S H vs ds → DtA S H vs.dropLast ds.dropLast
  | [], [], .nil => .nil
  | [_], [_], .cons _ .nil => .nil
  | _ :: _ :: _, _ :: _ :: _, .cons h (.cons h2 t) => .cons h (dtA_init (.cons h2 t))
instance pu_pop {K : PySem.W.Frag} {ta : TE} {da : DE} [A : PuE ta da] : PuE (tBM0 K "list" rPop ta) (dPop da) := ⟨fun S M σ δ H P Q w e h k =>
  A.run S M σ δ H _ _ w e h fun d S1 M1 v H1 p1 t1 w1 h1 => by
    obtain ⟨l, xs, y, rfl, hm, hy, p1⟩ := p1
    cases h1
    obtain ⟨sl, vs, ha, hs⟩ := w1.mem l _ hm
    have ex : Ext S1 H1 (upd H1 l (.lst vs.dropLast)) := Ext.mut (Ext.refl _) sl
    obtain ⟨u, hu, hd⟩ := hs.get hy
    exact ⟨.inl ⟨rfl, _, SqL.of ha⟩, l, vs, u, rfl, rfl, ha, by rw [hs.length]; exact hu, k _ _ _ _ _ p1 (t1.trans (.change hm)) (w1.change hm ⟨_, upd_same, (dtA_init hs).go ex⟩) (hd.go ex)⟩⟩
def rAddM : R2 := fun x y H Q => ∃ p q, x = V.ref p ∧ y = V.ref q ∧ rAddU x y H Q
def rAddM1 : DR := fun x y M P => ∃ xs ys, isLs M x xs ∧ isLs M y ys ∧ xs.length + ys.length ≤ sizeLine ∧ ∀ a, M a = none → P (.ptr a) (mset M a (.lst (xs ++ ys)))
instance op_addM1 : OpD rAddM rAddM1 := ⟨fun S M H x y dx dy P Q w hx hy h k => by
  obtain ⟨xs, ys, h1, h2, hl, h⟩ := h
  obtain ⟨a, vs, rfl, ha, hs⟩ := ls_get w hx h1
  obtain ⟨b, ws, rfl, hb, ht⟩ := ls_get w hy h2
  refine ⟨a, b, rfl, rfl, rAddU_l ha hb (by rw [hs.length, ht.length]; exact hl) fun p hp => ?_⟩
  have hs3 : DtA (fun a => S a ∨ a = p) (upd H p (.lst (vs ++ ws))) (vs ++ ws) (xs ++ ys) := by
    have := DtA.set (S := S) (S' := fun a => S a ∨ a = p) (fun b n k z => z.elim n fun q => k (by rw [q]; exact hp)) _ (hs.append ht)
    exact this.sm (Same.new hp)
  exact k (.ptr p) _ _ (.ref p) _ (h p (w.fresh hp)) (.mutable w hp) (w.mutable hp ⟨_, upd_same, hs3⟩) (.ptr p)⟩
end V
namespace PySem
namespace HandSPX
open Spec PyProof.Rows
end HandSPX
end PySem
namespace V
open PySem PySem.Spec PyProof.Rows L2 U StX
end V
namespace V
open PySem PySem.Spec PyProof.Rows L2 U StX
def tMade (C : Addr) (f : Str) (ta : TA) : TE := fun σ H Q => tMkO C (spExI C f) [] ta σ H fun cls d H' => ∀ (a : Addr) (oe : Obj) (us : Array Value), H' a = none → oe.cls = cls → oe.dict = d → oe.data = .fields us → Q (.ref a) (upd H' a (xObj oe))
def tMade0 (C : Addr) : TE := fun _ H Q => ∀ (a : Addr) (oe : Obj) (us : Array Value), H a = none → oe.cls = .ref C → oe.dict = none → oe.data = .fields us → Q (.ref a) (upd H a (xObj oe))
def dMade (C : Addr) (f : Str) (a : DE) : DE := fun δ M P => a δ M fun y M1 => ∀ b, M1 b = none → P (.ptr b) (mset M1 b (.xob C [(f, y)]))
def dMade0 (C : Addr) : DE := fun _ M P => ∀ b, M b = none → P (.ptr b) (mset M b (.xob C []))
instance pu_made {C : Addr} {f : Str} {te : TE} {da : DE} [A : PuE te da] : PuE (tMade C f (tCons te tNil)) (dMade C f da) := ⟨fun S M σ δ H P Q w e h k =>
  A.run S M σ δ H _ _ w e h fun d S1 M1 v H1 p1 t1 w1 h1 => by
    refine ⟨by simp, fun a na => ⟨a, v, rfl, upd_same, fun dx nd ne => ?_⟩⟩
    have nd1 : H1 dx = none := by rw [upd_ne ne] at nd; exact nd
    refine ⟨rfl, dx, [(f, v)], upd_same, by rw [upd_ne ne, upd_same], nd1, ?_⟩
    rw [upd_back na ne]
    intro b oe us hb e1 e2 e3
    have w' := w1.new (o := .xd [(f, v)]) nd1
    have t' := t1.trans (Step.new (S := S1) (M := M1) (o := .xd [(f, v)]) nd1)
    have xf : XF S1 (upd H1 dx (.xd [(f, v)])) oe.dict [(f, d)] := .inr ⟨dx, _, e2, w1.ns nd1, upd_same, rfl, .cons (h1.sm (Same.new nd1)) .nil⟩
    exact k _ _ _ _ _ (p1 b (w'.fresh hb)) (t'.trans (Step.mutable (S := S1) (M := M1) (mo := .xob C [(f, d)]) (o := xObj oe) w' hb)) (w'.mutable hb (held_xob hb e1 e3 xf)) (.ptr b)⟩
instance pu_made0 {C : Addr} : PuE (tMade0 C) (dMade0 C) := ⟨fun S M σ δ H P Q w e h k => by
  intro b oe us hb e1 e2 e3
  exact k _ _ _ _ _ (h b (w.fresh hb)) (Step.mutable (S := S) (M := M) (mo := .xob C []) (o := xObj oe) w hb) (w.mutable hb (held_xob hb e1 e3 (.inl ⟨e2, rfl⟩))) (.ptr b)⟩
end V
namespace V
open PySem PySem.Spec PyProof.Rows L2 U StX
/-- a number whose digits are shown -/
def bigOk (i : Int) : Prop := i.natAbs < 10 ^ 4300
theorem bigOk.of {i : Int} {k : Nat} (h : i.natAbs < 2 ^ k) (hk : k ≤ 12900) : bigOk i :=
  Nat.lt_of_lt_of_le h (Nat.le_trans (Nat.pow_le_pow_right (by decide) hk) pow_lo)
/-- the text of a flat value -/
def showV : V → Str
  | .non => "None"
  | .bl b => if b then "True" else "False"
  | .int i => toString i
  | .str x => reprText x
  | _ => Str.empty
def showD : D → Str
  | .non => "None"
  | .bl b => if b then "True" else "False"
  | .int i => toString i
  | .str x => reprText x
  | _ => Str.empty
def goodV : V → Prop
  | .non => True
  | .bl _ => True
  | .int i => bigOk i
  | .str x => (reprText x).length ≤ sizeLine
  | _ => False
def goodD : D → Prop
  | .non => True
  | .bl _ => True
  | .int i => bigOk i
  | .str x => (reprText x).length ≤ sizeLine
  | _ => False
theorem show_VD {S : Addr → Prop} {H : Hp} {v : V} {d : D} (h : Dt S H v d) (g : goodD d) : goodV v ∧ showV v = showD d := by
  cases h <;> first | exact ⟨g, rfl⟩ | exact g.elim
theorem shows_VD {S : Addr → Prop} {H : Hp} : ∀ {vs : List V} {ds : List D}, DtA S H vs ds → (∀ d ∈ ds, goodD d) → (∀ v ∈ vs, goodV v) ∧ vs.map showV = ds.map showD
  | _, _, .nil, _ => ⟨(fun _ h => nomatch h), rfl⟩
  | _, _, .cons h t, g => by
    obtain ⟨a, b⟩ := show_VD h (g _ List.mem_cons_self)
    obtain ⟨c, e⟩ := shows_VD t fun x hx => g x (List.mem_cons_of_mem _ hx)
    refine ⟨fun v hv => ?_, by rw [List.map_cons, List.map_cons, b, e]⟩
    rcases List.mem_cons.mp hv with rfl | hv
    · exact a
    · exact c v hv
def rReprF (K : PySem.W.Frag) : List V → Hp → VK → Prop := fun xs H Q => ∃ a v vs, xs = [.ref a] ∧ SqL K H a (v :: vs) ∧ (∀ x ∈ v :: vs, goodV x) ∧ (listText ((v :: vs).map showV)).length ≤ sizeLine ∧ Q (.str (listText ((v :: vs).map showV))) H
def rReprF1 : DC := fun ds M P => ∃ d x xs, ds = [d] ∧ isLs M d (x :: xs) ∧ (∀ y ∈ x :: xs, goodD y) ∧ (listText ((x :: xs).map showD)).length ≤ sizeLine ∧ P (.str (listText ((x :: xs).map showD))) M
instance cb_reprF {K : PySem.W.Frag} : CbD (rReprF K) rReprF1 := ⟨fun S M H vs ds P Q w hv h k => by
  obtain ⟨d, x, xs, rfl, hs, g, hz, q⟩ := h
  match vs, hv with
  | [v], .cons h0 .nil =>
    obtain ⟨a, us, rfl, ha, ht⟩ := ls_get w h0 hs
    obtain ⟨g2, e⟩ := shows_VD ht g
    match us, ht with
    | u :: us, ht =>
      refine ⟨a, u, us, rfl, SqL.of ha, g2, by rw [e]; exact hz, ?_⟩
      rw [e]
      exact k _ S M _ H q .refl w (.str _)⟩
end V
namespace V
open PySem PySem.Spec PyProof.Rows L2 U StX
section
variable {prog : Program} {w : World} {A : Around} {E : Value → Shared → Prop} {s : Shared} {K : PySem.W.Frag} {x C : Addr} {ox : Obj} {od : Option Obj} {v : Value}
/-- two things are not one -/
def Apart2 (prog : Program) (w : World) (s : Shared) (x : Addr) (v : Value) : Prop := ∀ (A : Around) (E : Value → Shared → Prop) (Q : Bool → Shared → Prop), Q false s → wpAny (model prog w) A (isSame (.ref x) v) Q E s
theorem Apart2.ref {y : Addr} {oy : Obj} (J : PySem.W.InstAt s.heap x ox C od) (hy : s.heap.get? y = some oy) (n : x ≠ y) : Apart2 prog w s x (.ref y) := fun A E Q q => by
  obtain ⟨hx, hc, _⟩ := J
  exact wpAny_isSame_ref_other n hx hy (by rw [hc]; intro z; cases z) q
theorem Apart2.non : Apart2 prog w s x .none := fun A E Q q => wpAny_pure q
end
section
variable {X : Cx} {K : PySem.W.Frag} {C : Addr}
/-- x == y, x != y of two instances of one class, two things -/
def rEqId (C : Addr) : R2 := fun x y H Q => ∃ a b dx dy fs gs, x = V.ref a ∧ y = V.ref b ∧ a ≠ b ∧ H a = some (.ins C dx fs) ∧ H b = some (.ins C dy gs) ∧ Q (.bl false) H
def rNeId (C : Addr) : R2 := fun x y H Q => ∃ a b dx dy fs gs, x = V.ref a ∧ y = V.ref b ∧ a ≠ b ∧ H a = some (.ins C dx fs) ∧ H b = some (.ins C dy gs) ∧ Q (.bl true) H
/-- x == y: y compares by an __eq__ of its own -/
def rEqOO (C D : Addr) (sp : Sp) : R2 := fun x y H Q => ∃ a b dx dy fs gs, x = V.ref a ∧ y = V.ref b ∧ a ≠ b ∧ H a = some (.ins C dx fs) ∧ H b = some (.ins D dy gs) ∧ sp [y, x] H (fun v H' => ∃ t, v = V.bl t ∧ Q (.bl t) H') L2.E0
/-- x == y: y is a tuple or None -/
def rEqOT (K : PySem.W.Frag) (C : Addr) : R2 := fun x y H Q => ∃ a dx fs, x = V.ref a ∧ H a = some (.ins C dx fs) ∧ (y = .non ∨ ∃ b ys, y = V.ref b ∧ H b = some (.tup ys)) ∧ Q (.bl false) H
/-- x == y: x by an __eq__ of its own, y of another class -/
def rEqOI (C D : Addr) (sp : Sp) : R2 := fun x y H Q => ∃ a b dx dy fs gs, x = V.ref a ∧ y = V.ref b ∧ H a = some (.ins C dx fs) ∧ H b = some (.ins D dy gs) ∧ sp [x, y] H (fun v H' => ∃ t, v = V.bl t ∧ Q (.bl t) H') L2.E0
/-- x == y of two instances of one class, by an __eq__ of its own -/
def rEqSame (C : Addr) (sp : Sp) : R2 := fun x y H Q => ∃ a b dx dy fs gs, x = V.ref a ∧ y = V.ref b ∧ H a = some (.ins C dx fs) ∧ H b = some (.ins C dy gs) ∧ sp [x, y] H (fun v H' => ∃ t, v = V.bl t ∧ Q (.bl t) H') L2.E0
end
def rEqIdD (C : Addr) : DR := fun x y M P => ∃ a b fs gs, x = .ptr a ∧ y = .ptr b ∧ a ≠ b ∧ M a = some (.ins C fs) ∧ M b = some (.ins C gs) ∧ P (.bl false) M
def rNeIdD (C : Addr) : DR := fun x y M P => ∃ a b fs gs, x = .ptr a ∧ y = .ptr b ∧ a ≠ b ∧ M a = some (.ins C fs) ∧ M b = some (.ins C gs) ∧ P (.bl true) M
def rEqOOD (C E : Addr) (sp : DC) : DR := fun x y M P => ∃ a fs n2 x2, x = .ptr a ∧ M a = some (.ins C fs) ∧ y = .ins E n2 x2 ∧ sp [y, x] M fun d M' => ∃ t, d = .bl t ∧ P (.bl t) M'
def rEqOTD (C : Addr) : DR := fun x y M P => ∃ a fs, x = .ptr a ∧ M a = some (.ins C fs) ∧ (y = .non ∨ ∃ ys, y = .tup ys) ∧ P (.bl false) M
def rEqOID (C E : Addr) (sp : DC) : DR := fun x y M P => ∃ b gs n1 x1, x = .ins C n1 x1 ∧ y = .ptr b ∧ M b = some (.ins E gs) ∧ sp [x, y] M fun d M' => ∃ t, d = .bl t ∧ P (.bl t) M'
theorem held_ins {S : Addr → Prop} {M : Mem} {H : Hp} {a C : Addr} {fs : List (Str × D)} (w : Wo S M H) (h : M a = some (.ins C fs)) : S a ∧ ∃ dx gs, H a = some (.ins C dx gs) := by
  obtain ⟨sa, dx, gs, e, _⟩ := w.mem a _ h
  exact ⟨sa, dx, gs, e⟩
instance op_eqIdD {C : Addr} : OpD (rEqId C) (rEqIdD C) := ⟨fun S M H x y dx dy P Q w hx hy h k => by
  obtain ⟨a, b, fs, gs, rfl, rfl, n, ha, hb, q⟩ := h
  cases hx; cases hy
  obtain ⟨_, d1, g1, e1⟩ := held_ins w ha
  obtain ⟨_, d2, g2, e2⟩ := held_ins w hb
  exact ⟨a, b, d1, d2, g1, g2, rfl, rfl, n, e1, e2, k _ S M _ H q .refl w (.bl _)⟩⟩
instance op_neIdD {C : Addr} : OpD (rNeId C) (rNeIdD C) := ⟨fun S M H x y dx dy P Q w hx hy h k => by
  obtain ⟨a, b, fs, gs, rfl, rfl, n, ha, hb, q⟩ := h
  cases hx; cases hy
  obtain ⟨_, d1, g1, e1⟩ := held_ins w ha
  obtain ⟨_, d2, g2, e2⟩ := held_ins w hb
  exact ⟨a, b, d1, d2, g1, g2, rfl, rfl, n, e1, e2, k _ S M _ H q .refl w (.bl _)⟩⟩
instance op_eqOOD {C E : Addr} {sp : DC} : OpD (rEqOO C E (lift sp)) (rEqOOD C E sp) := ⟨fun S M H x y dx dy P Q w hx hy h k => by
  obtain ⟨a, fs, n2, x2, rfl, ha, rfl, q⟩ := h
  have gy := hy
  cases hx
  obtain ⟨sa, d1, g1, e1⟩ := held_ins w ha
  cases hy with
  | ins nb hb _ _ =>
    refine ⟨a, _, d1, _, g1, _, rfl, rfl, fun z => nb (by rw [← z]; exact sa), e1, hb, S, M, _, _, w, .cons gy (.cons (.ptr a) .nil), q, fun d S' M' v H' p t w' hv => ?_⟩
    obtain ⟨b, rfl, p⟩ := p
    cases hv
    exact ⟨b, rfl, k _ S' M' _ H' p t w' (.bl _)⟩⟩
instance op_eqOTD {K : PySem.W.Frag} {C : Addr} : OpD (rEqOT K C) (rEqOTD C) := ⟨fun S M H x y dx dy P Q w hx hy h k => by
  obtain ⟨a, fs, rfl, ha, hk, q⟩ := h
  cases hx
  obtain ⟨sa, d1, g1, e1⟩ := held_ins w ha
  refine ⟨a, d1, g1, rfl, e1, ?_, k _ S M _ H q .refl w (.bl _)⟩
  rcases hk with rfl | ⟨ys, rfl⟩
  · cases hy
    exact .inl rfl
  · cases hy with
    | tup _ hb _ => exact .inr ⟨_, _, rfl, hb⟩⟩
instance op_eqOID {C E : Addr} {sp : DC} : OpD (rEqOI C E (lift sp)) (rEqOID C E sp) := ⟨fun S M H x y dx dy P Q w hx hy h k => by
  obtain ⟨b, gs, n1, x1, rfl, rfl, hb, q⟩ := h
  have gx := hx
  cases hy
  obtain ⟨sb, d1, g1, e1⟩ := held_ins w hb
  cases hx with
  | ins na ha _ _ =>
    refine ⟨_, b, _, d1, _, g1, rfl, rfl, ha, e1, S, M, _, _, w, .cons gx (.cons (.ptr b) .nil), q, fun d S' M' v H' p t w' hv => ?_⟩
    obtain ⟨b, rfl, p⟩ := p
    cases hv
    exact ⟨b, rfl, k _ S' M' _ H' p t w' (.bl _)⟩⟩
def rEqSameD (C : Addr) (sp : DC) : DR := fun x y M P => ∃ n1 x1 n2 x2, x = .ins C n1 x1 ∧ y = .ins C n2 x2 ∧ sp [x, y] M fun d M' => ∃ t, d = .bl t ∧ P (.bl t) M'
instance op_eqSameD {C : Addr} {sp : DC} : OpD (rEqSame C (lift sp)) (rEqSameD C sp) := ⟨fun S M H x y dx dy P Q w hx hy h k => by
  obtain ⟨n1, x1, n2, x2, rfl, rfl, q⟩ := h
  have gx := hx
  have gy := hy
  cases hx with
  | ins na ha _ _ =>
    cases hy with
    | ins nb hb _ _ =>
      refine ⟨_, _, _, _, _, _, rfl, rfl, ha, hb, S, M, _, _, w, .cons gx (.cons gy .nil), q, fun d S' M' v H' p t w' hv => ?_⟩
      obtain ⟨b, rfl, p⟩ := p
      cases hv
      exact ⟨b, rfl, k _ S' M' _ H' p t w' (.bl _)⟩⟩
end V
namespace V
open PySem PySem.Spec PyProof.Rows L2 U StX
end V
namespace V
open PySem PySem.Spec PyProof.Rows L2 U StX
def rGeD (K : PySem.W.Frag) : R2 := fun x y H Q => ∃ d e, Dp K H x d ∧ Dp K H y e ∧ PySem.W.alike d e = true ∧ d ≠ .none ∧ min d.depth e.depth < 64 ∧ Q (.bl (!PySem.W.dataLt d e)) H
def rGeP1 : DR := fun x y M P => ∃ (n m : Int) (z u : Str), x = .tup [.int n, .str z] ∧ y = .tup [.int m, .str u] ∧ P (.bl (!(if n = m then decide (cd z < cd u) else decide (n < m)))) M
instance op_geP1 {K : PySem.W.Frag} : OpD (rGeD K) rGeP1 := ⟨fun S M H x y dx dy P Q w hx hy h k => by
  obtain ⟨n, m, z, u, rfl, rfl, p⟩ := h
  have e1 : D.py (.tup [.int n, .str z]) = some (.tuple [.int n, .str z]) := by simp [D.py, D.pys]
  have e2 : D.py (.tup [.int m, .str u]) = some (.tuple [.int m, .str u]) := by simp [D.py, D.pys]
  refine ⟨_, _, Dt.dp _ hx e1, Dt.dp _ hy e2, by simp [PySem.W.alike, PySem.W.alikeAll], by simp, by simp [PyData.depth, PyData.depthAll], ?_⟩
  rw [lt_np]
  exact k _ S M _ H p .refl w (.bl _)⟩
end V
namespace V
open PySem PySem.Spec PyProof.Rows L2 U StX
/-- texts that are no keys -/
def KMis (K : PySem.W.Frag) (a : Addr) (ks : List Str) : Prop := ∀ k ∈ ks, PySem.W.nsIn K a k = some none
theorem kmis_nil {K : PySem.W.Frag} {a : Addr} : KMis K a [] := fun _ h => nomatch h
theorem kmis_cons {K : PySem.W.Frag} {a : Addr} {k : Str} {ks : List Str} (h : PySem.W.nsIn K a k = some none) (t : KMis K a ks) : KMis K a (k :: ks) := fun x hx => by
  rcases List.mem_cons.mp hx with rfl | hx
  · exact h
  · exact t x hx
def tKGet2 (l : List (Str × Int)) (ks : List Str) (te : TE) : TE := fun σ H Q => te σ H fun y H1 => (∃ p ∈ l, y = .str p.1 ∧ Q (.int p.2) H1) ∨ ∃ k ∈ ks, y = .str k ∧ Q .non H1
theorem pe_kget2 {X : Cx} {K : PySem.W.Frag} {w : World} {name : Str} {a : Addr} {l : List (Str × Int)} {ks : List Str} {o e : Expr} {te : TE} {apos cpos : Pos} (hK : X.K = K) (hw : X.w = w) (T : KTab K name a l) (N : KMis K a ks) [D : KDs K w name] (ho : PE X o (tC (.ref a))) (he : PE X e te) (m : M1 X o "get" apos e cpos) :
    PE X (.Call (.Attribute o "get" apos) [e] [] cpos) (tKGet2 l ks te) := by
  subst hK
  subst hw
  refine ⟨fun pins s σ H Q I h => ?_⟩
  obtain ⟨es, n, hl⟩ := T.at_
  have lit := D.lit a es n hl T.ns
  have nameQ : (tC (.ref a)) σ H fun x H1 => x = .ref a ∧ te σ H1 fun y H2 => (∃ p ∈ l, y = .str p.1 ∧ Q (.int p.2) H2) ∨ ∃ k ∈ ks, y = .str k ∧ Q .non H2 := ⟨rfl, h⟩
  refine wpAny_Call_method m.base m.few m.line PySem.F.plainAttrs_dict PySem.F.slot_dict_get PySem.F.type_dict_get (thn (ho.run pins s σ H _ I nameQ) fun u s1 ⟨x, H1, I1, rx, ex, q1⟩ => ?_)
  subst ex
  obtain rfl : u = Value.ref a := rx
  have hm := PySem.W.mapOf_K (prog := X.prog) (w := X.w) I1.kIn hl lit
  obtain ⟨ob, _, _, hob1, hob2, _⟩ := id hm
  refine ⟨hm.typeIs, fun b q => (by cases q; exact ⟨ob, hob1, hob2.2.1⟩), ?_⟩
  rw [m.trees]
  refine Calls.callWith_builtin rfl (Calls.evalArgs_plain (Calls.spliced_cons (thn (he.run pins s1 σ H1 _ I1 q1) fun iv s2 ⟨y, H2, I2, ry, q2⟩ => Calls.spliced_nil ?_)))
  have hm2 := PySem.W.mapOf_K (prog := X.prog) (w := X.w) I2.kIn hl lit
  rcases q2 with ⟨p, hp, ey, q2⟩ | ⟨k, hk, ey, q2⟩
  · subst ey
    obtain ⟨t, rfl⟩ := ry
    obtain ⟨u0, hu0, ru0⟩ := T.val p hp
    refine call_meetsIn PySem.F.slot_dict_get hm2.typeIs PySem.F.entry_dict_get (PySem.F.args_dict_get_2 _ _) (meets_dict_get (PySem.strKind X.prog X.w) a (PySem.strKind_is X.prog X.w p.1 t) T.low) ⟨_, hm2, .int p.2, H2, I2.tok _, ?_, q2⟩
    rw [PySem.W.find_K hl hu0]
    exact ru0
  · subst ey
    obtain ⟨t, rfl⟩ := ry
    refine call_meetsIn PySem.F.slot_dict_get hm2.typeIs PySem.F.entry_dict_get (PySem.F.args_dict_get_2 _ _) (meets_dict_get (PySem.strKind X.prog X.w) a (PySem.strKind_is X.prog X.w k t) T.low) ⟨_, hm2, .non, H2, I2.tok _, ?_, q2⟩
    rw [PySem.W.find_K hl (N k hk)]
    rfl
def dKGet2 (l : List (Str × Int)) (ks : List Str) (e : DE) : DE := fun δ M P => e δ M fun y M1 => (∃ p ∈ l, y = .str p.1 ∧ P (.int p.2) M1) ∨ ∃ k ∈ ks, y = .str k ∧ P .non M1
instance pu_kget2 {l : List (Str × Int)} {ks : List Str} {te : TE} {de : DE} [A : PuE te de] : PuE (tKGet2 l ks te) (dKGet2 l ks de) := ⟨fun S M σ δ H P Q w e h k =>
  A.run S M σ δ H _ _ w e h fun x S1 M1 v1 H1 p1 t1 w1 h1 => by
    rcases p1 with ⟨p, hp, rfl, p1⟩ | ⟨z, hz, rfl, p1⟩
    · cases h1
      exact .inl ⟨p, hp, rfl, k _ S1 M1 _ H1 p1 t1 w1 (.int _)⟩
    · cases h1
      exact .inr ⟨z, hz, rfl, k _ S1 M1 _ H1 p1 t1 w1 .non⟩⟩
theorem x_kget2 {l : List (Str × Int)} {ks : List Str} {e : DE} {δ : Dl} {M : Mem} {P : QD} (h : e δ M fun y M1 => (∃ p ∈ l, y = .str p.1 ∧ P (.int p.2) M1) ∨ ∃ k ∈ ks, y = .str k ∧ P .non M1) : dKGet2 l ks e δ M P := h
end V
namespace G
open PySem PySem.Spec PyProof.Rows L2 U V
def top (i : Nat) : Stmt := PySem.Challenge.pw_shownshort_k21_things_of_any_kind_judged.main.body.getD i (.Pass ⟨0, 0, 0, 0⟩)
abbrev s_InvalidNumber___init__ : Stmt := inClass (top 7) 0
abbrev lv_InvalidNumber___init__ : Nat := 1
abbrev n_InvalidNumber___init__ : List Str := ["self", "value"]
abbrev p_InvalidNumber___init__ : List Str := ["self", "value"]
theorem sc_InvalidNumber___init__ : FnScope n_InvalidNumber___init__ p_InvalidNumber___init__ (L2.defScope s_InvalidNumber___init__) := ⟨rfl, rfl, rfl, by decide +kernel, rfl, by decide +kernel, by decide +kernel⟩
abbrev s_InvalidMark___init__ : Stmt := inClass (top 8) 0
abbrev lv_InvalidMark___init__ : Nat := 1
abbrev n_InvalidMark___init__ : List Str := ["self", "value"]
abbrev p_InvalidMark___init__ : List Str := ["self", "value"]
theorem sc_InvalidMark___init__ : FnScope n_InvalidMark___init__ p_InvalidMark___init__ (L2.defScope s_InvalidMark___init__) := ⟨rfl, rfl, rfl, by decide +kernel, rfl, by decide +kernel, by decide +kernel⟩
abbrev s_InvalidRow___init__ : Stmt := inClass (top 9) 0
abbrev p_InvalidRow___init__ : List Str := ["self", "index"]
abbrev s_is_integer : Stmt := top 14
abbrev lv_is_integer : Nat := 1
abbrev n_is_integer : List Str := ["value"]
abbrev p_is_integer : List Str := ["value"]
theorem sc_is_integer : FnScope n_is_integer p_is_integer (L2.defScope s_is_integer) := ⟨rfl, rfl, rfl, by decide +kernel, rfl, by decide +kernel, by decide +kernel⟩
abbrev s_is_text : Stmt := top 15
abbrev lv_is_text : Nat := 1
abbrev n_is_text : List Str := ["value", "most", "sign"]
abbrev p_is_text : List Str := ["value", "most"]
theorem sc_is_text : FnScope n_is_text p_is_text (L2.defScope s_is_text) := ⟨rfl, rfl, rfl, by decide +kernel, rfl, by decide +kernel, by decide +kernel⟩
abbrev s_is_length : Stmt := top 16
abbrev lv_is_length : Nat := 2
abbrev n_is_length : List Str := ["value"]
abbrev p_is_length : List Str := ["value"]
theorem sc_is_length : FnScope n_is_length p_is_length (L2.defScope s_is_length) := ⟨rfl, rfl, rfl, by decide +kernel, rfl, by decide +kernel, by decide +kernel⟩
abbrev s_with_next : Stmt := top 17
abbrev lv_with_next : Nat := 1
abbrev n_with_next : List Str := ["length", "place", "here"]
abbrev p_with_next : List Str := ["length", "place"]
theorem sc_with_next : FnScope n_with_next p_with_next (L2.defScope s_with_next) := ⟨rfl, rfl, rfl, by decide +kernel, rfl, by decide +kernel, by decide +kernel⟩
abbrev s_check_number : Stmt := top 19
abbrev lv_check_number : Nat := 3
abbrev n_check_number : List Str := ["value"]
abbrev p_check_number : List Str := ["value"]
theorem sc_check_number : FnScope n_check_number p_check_number (L2.defScope s_check_number) := ⟨rfl, rfl, rfl, by decide +kernel, rfl, by decide +kernel, by decide +kernel⟩
abbrev s_Shortener___init__ : Stmt := inClass (top 20) 0
abbrev lv_Shortener___init__ : Nat := 4
abbrev n_Shortener___init__ : List Str := ["self", "limit", "head", "tail", "mark"]
abbrev p_Shortener___init__ : List Str := ["self", "limit", "head", "tail", "mark"]
theorem sc_Shortener___init__ : FnScope n_Shortener___init__ p_Shortener___init__ (L2.defScope s_Shortener___init__) := ⟨rfl, rfl, rfl, by decide +kernel, rfl, by decide +kernel, by decide +kernel⟩
abbrev s_Shortener_cut : Stmt := inClass (top 20) 1
abbrev lv_Shortener_cut : Nat := 1
abbrev n_Shortener_cut : List Str := ["self", "signs"]
abbrev p_Shortener_cut : List Str := ["self", "signs"]
theorem sc_Shortener_cut : FnScope n_Shortener_cut p_Shortener_cut (L2.defScope s_Shortener_cut) := ⟨rfl, rfl, rfl, by decide +kernel, rfl, by decide +kernel, by decide +kernel⟩
abbrev s_Shortener___eq__ : Stmt := inClass (top 20) 2
abbrev lv_Shortener___eq__ : Nat := 6
abbrev n_Shortener___eq__ : List Str := ["self", "other"]
abbrev p_Shortener___eq__ : List Str := ["self", "other"]
theorem sc_Shortener___eq__ : FnScope n_Shortener___eq__ p_Shortener___eq__ (L2.defScope s_Shortener___eq__) := ⟨rfl, rfl, rfl, by decide +kernel, rfl, by decide +kernel, by decide +kernel⟩
abbrev s_Shortener___repr__ : Stmt := inClass (top 20) 3
abbrev p_Shortener___repr__ : List Str := ["self"]
abbrev s_check_row : Stmt := top 21
abbrev lv_check_row : Nat := 6
abbrev n_check_row : List Str := ["value", "index", "shortener"]
abbrev p_check_row : List Str := ["value"]
theorem sc_check_row : FnScope n_check_row p_check_row (L2.defScope s_check_row) := ⟨rfl, rfl, rfl, by decide +kernel, rfl, by decide +kernel, by decide +kernel⟩
abbrev s_cut_by : Stmt := top 22
abbrev lv_cut_by : Nat := 2
abbrev n_cut_by : List Str := ["row", "signs", "shortener"]
abbrev p_cut_by : List Str := ["row", "signs"]
theorem sc_cut_by : FnScope n_cut_by p_cut_by (L2.defScope s_cut_by) := ⟨rfl, rfl, rfl, by decide +kernel, rfl, by decide +kernel, by decide +kernel⟩
abbrev s_plan_of : Stmt := top 23
abbrev lv_plan_of : Nat := 3
abbrev n_plan_of : List Str := ["row", "length"]
abbrev p_plan_of : List Str := ["row", "length"]
theorem sc_plan_of : FnScope n_plan_of p_plan_of (L2.defScope s_plan_of) := ⟨rfl, rfl, rfl, by decide +kernel, rfl, by decide +kernel, by decide +kernel⟩
abbrev s_parting_place : Stmt := top 26
abbrev lv_parting_place : Nat := 1
abbrev n_parting_place : List Str := ["one", "other", "places", "marks", "each"]
abbrev p_parting_place : List Str := ["one", "other"]
theorem sc_parting_place : FnScope n_parting_place p_parting_place (L2.defScope s_parting_place) := ⟨rfl, rfl, rfl, by decide +kernel, rfl, by decide +kernel, by decide +kernel⟩
abbrev s_parting_text : Stmt := top 27
abbrev lv_parting_text : Nat := 8
abbrev n_parting_text : List Str := ["length", "plan", "other_plan", "unlike", "places", "one", "other"]
abbrev p_parting_text : List Str := ["length", "plan", "other_plan"]
theorem sc_parting_text : FnScope n_parting_text p_parting_text (L2.defScope s_parting_text) := ⟨rfl, rfl, rfl, by decide +kernel, rfl, by decide +kernel, by decide +kernel⟩
abbrev s_first_unlike : Stmt := top 28
abbrev lv_first_unlike : Nat := 9
abbrev n_first_unlike : List Str := ["row", "other_row", "length", "found"]
abbrev p_first_unlike : List Str := ["row", "other_row"]
theorem sc_first_unlike : FnScope n_first_unlike p_first_unlike (L2.defScope s_first_unlike) := ⟨rfl, rfl, rfl, by decide +kernel, rfl, by decide +kernel, by decide +kernel⟩
abbrev s_first_unstable : Stmt := top 29
abbrev lv_first_unstable : Nat := 9
abbrev n_first_unstable : List Str := ["row", "length", "plan", "found"]
abbrev p_first_unstable : List Str := ["row"]
theorem sc_first_unstable : FnScope n_first_unstable p_first_unstable (L2.defScope s_first_unstable) := ⟨rfl, rfl, rfl, by decide +kernel, rfl, by decide +kernel, by decide +kernel⟩
abbrev s_known_signs : Stmt := top 31
abbrev lv_known_signs : Nat := 4
abbrev n_known_signs : List Str := ["views", "length", "known", "row", "shown", "plan", "element", "sign"]
abbrev p_known_signs : List Str := ["views", "length"]
theorem sc_known_signs : FnScope n_known_signs p_known_signs (L2.defScope s_known_signs) := ⟨rfl, rfl, rfl, by decide +kernel, rfl, by decide +kernel, by decide +kernel⟩
abbrev s_shortener_in : Stmt := top 34
abbrev lv_shortener_in : Nat := 6
abbrev n_shortener_in : List Str := ["value"]
abbrev p_shortener_in : List Str := ["value"]
theorem sc_shortener_in : FnScope n_shortener_in p_shortener_in (L2.defScope s_shortener_in) := ⟨rfl, rfl, rfl, by decide +kernel, rfl, by decide +kernel, by decide +kernel⟩
abbrev s_row_in : Stmt := top 35
abbrev lv_row_in : Nat := 8
abbrev n_row_in : List Str := ["value", "found", "told"]
abbrev p_row_in : List Str := ["value"]
theorem sc_row_in : FnScope n_row_in p_row_in (L2.defScope s_row_in) := ⟨rfl, rfl, rfl, by decide +kernel, rfl, by decide +kernel, by decide +kernel⟩
abbrev s_shown_by : Stmt := top 36
abbrev lv_shown_by : Nat := 3
abbrev n_shown_by : List Str := ["row", "text"]
abbrev p_shown_by : List Str := ["row", "text"]
theorem sc_shown_by : FnScope n_shown_by p_shown_by (L2.defScope s_shown_by) := ⟨rfl, rfl, rfl, by decide +kernel, rfl, by decide +kernel, by decide +kernel⟩
abbrev s_is_nothing : Stmt := top 37
abbrev lv_is_nothing : Nat := 1
abbrev n_is_nothing : List Str := ["paper"]
abbrev p_is_nothing : List Str := ["paper"]
theorem sc_is_nothing : FnScope n_is_nothing p_is_nothing (L2.defScope s_is_nothing) := ⟨rfl, rfl, rfl, by decide +kernel, rfl, by decide +kernel, by decide +kernel⟩
abbrev s_holds_of_two : Stmt := top 38
abbrev lv_holds_of_two : Nat := 10
abbrev n_holds_of_two : List Str := ["claim", "paper", "row", "other"]
abbrev p_holds_of_two : List Str := ["claim", "paper", "row"]
theorem sc_holds_of_two : FnScope n_holds_of_two p_holds_of_two (L2.defScope s_holds_of_two) := ⟨rfl, rfl, rfl, by decide +kernel, rfl, by decide +kernel, by decide +kernel⟩
abbrev s_holds_of_one : Stmt := top 39
abbrev lv_holds_of_one : Nat := 10
abbrev n_holds_of_one : List Str := ["claim", "paper", "row", "shown"]
abbrev p_holds_of_one : List Str := ["claim", "paper", "row"]
theorem sc_holds_of_one : FnScope n_holds_of_one p_holds_of_one (L2.defScope s_holds_of_one) := ⟨rfl, rfl, rfl, by decide +kernel, rfl, by decide +kernel, by decide +kernel⟩
abbrev s_holds_of_shown : Stmt := top 40
abbrev lv_holds_of_shown : Nat := 5
abbrev n_holds_of_shown : List Str := ["claim", "paper", "row"]
abbrev p_holds_of_shown : List Str := ["claim", "paper", "row"]
theorem sc_holds_of_shown : FnScope n_holds_of_shown p_holds_of_shown (L2.defScope s_holds_of_shown) := ⟨rfl, rfl, rfl, by decide +kernel, rfl, by decide +kernel, by decide +kernel⟩
abbrev s_holds_of_pair : Stmt := top 41
abbrev lv_holds_of_pair : Nat := 4
abbrev n_holds_of_pair : List Str := ["paper", "row", "text"]
abbrev p_holds_of_pair : List Str := ["paper", "row"]
theorem sc_holds_of_pair : FnScope n_holds_of_pair p_holds_of_pair (L2.defScope s_holds_of_pair) := ⟨rfl, rfl, rfl, by decide +kernel, rfl, by decide +kernel, by decide +kernel⟩
abbrev s_holds : Stmt := top 42
abbrev lv_holds : Nat := 11
abbrev n_holds : List Str := ["claim", "paper", "row"]
abbrev p_holds : List Str := ["claim", "paper"]
theorem sc_holds : FnScope n_holds p_holds (L2.defScope s_holds) := ⟨rfl, rfl, rfl, by decide +kernel, rfl, by decide +kernel, by decide +kernel⟩
abbrev s__law_pot : Stmt := top 44
abbrev lv__law_pot : Nat := 1
abbrev n__law_pot : List Str := ["_law_script", "_law_k", "_law_own", "_law_mixed", "_law_entry"]
abbrev p__law_pot : List Str := ["_law_script", "_law_k"]
theorem sc__law_pot : FnScope n__law_pot p__law_pot (L2.defScope s__law_pot) := ⟨rfl, rfl, rfl, by decide +kernel, rfl, by decide +kernel, by decide +kernel⟩
abbrev s__law_ladle : Stmt := top 45
abbrev lv__law_ladle : Nat := 1
abbrev n__law_ladle : List Str := ["_law_pot_here", "_law_many", "_law_digit"]
abbrev p__law_ladle : List Str := ["_law_pot_here", "_law_many"]
theorem sc__law_ladle : FnScope n__law_ladle p__law_ladle (L2.defScope s__law_ladle) := ⟨rfl, rfl, rfl, by decide +kernel, rfl, by decide +kernel, by decide +kernel⟩
abbrev s__law_one_of : Stmt := top 46
abbrev lv__law_one_of : Nat := 2
abbrev n__law_one_of : List Str := ["_law_pot_here", "_law_some"]
abbrev p__law_one_of : List Str := ["_law_pot_here", "_law_some"]
theorem sc__law_one_of : FnScope n__law_one_of p__law_one_of (L2.defScope s__law_one_of) := ⟨rfl, rfl, rfl, by decide +kernel, rfl, by decide +kernel, by decide +kernel⟩
abbrev s__law_good : Stmt := top 47
abbrev lv__law_good : Nat := 3
abbrev n__law_good : List Str := ["_law_pot_here", "_law_row_here", "_law_other", "_law_some"]
abbrev p__law_good : List Str := ["_law_pot_here"]
theorem sc__law_good : FnScope n__law_good p__law_good (L2.defScope s__law_good) := ⟨rfl, rfl, rfl, by decide +kernel, rfl, by decide +kernel, by decide +kernel⟩
abbrev s__law_odd : Stmt := top 48
abbrev lv__law_odd : Nat := 3
abbrev n__law_odd : List Str := ["_law_pot_here", "_law_some"]
abbrev p__law_odd : List Str := ["_law_pot_here"]
theorem sc__law_odd : FnScope n__law_odd p__law_odd (L2.defScope s__law_odd) := ⟨rfl, rfl, rfl, by decide +kernel, rfl, by decide +kernel, by decide +kernel⟩
abbrev s__law_bent : Stmt := top 49
abbrev lv__law_bent : Nat := 4
abbrev n__law_bent : List Str := ["_law_pot_here", "_law_claim_here", "_law_paper_here", "_law_way", "_law_at", "_law_odd_here"]
abbrev p__law_bent : List Str := ["_law_pot_here", "_law_claim_here", "_law_paper_here"]
theorem sc__law_bent : FnScope n__law_bent p__law_bent (L2.defScope s__law_bent) := ⟨rfl, rfl, rfl, by decide +kernel, rfl, by decide +kernel, by decide +kernel⟩
abbrev s__law_right : Stmt := top 50
abbrev lv__law_right : Nat := 12
abbrev n__law_right : List Str := ["_law_pot_here", "_law_again", "_law_claim_here", "_law_paper_here", "_law_one", "_law_two", "_law_each"]
abbrev p__law_right : List Str := ["_law_pot_here"]
theorem sc__law_right : FnScope n__law_right p__law_right (L2.defScope s__law_right) := ⟨rfl, rfl, rfl, by decide +kernel, rfl, by decide +kernel, by decide +kernel⟩
abbrev s_law : Stmt := top 51
abbrev lv_law : Nat := 13
abbrev n_law : List Str := ["_law_script", "_law_k"]
abbrev p_law : List Str := ["_law_script"]
theorem sc_law : FnScope n_law p_law (L2.defScope s_law) := ⟨rfl, rfl, rfl, by decide +kernel, rfl, by decide +kernel, by decide +kernel⟩
structure Tx (K : PySem.W.Frag) (mg : Str → Option Value) where
  n_abs : mg "abs" = none
  n_all : mg "all" = none
  n_bool : mg "bool" = none
  n_divmod : mg "divmod" = none
  n_enumerate : mg "enumerate" = none
  n_int : mg "int" = none
  n_isinstance : mg "isinstance" = none
  n_len : mg "len" = none
  n_list : mg "list" = none
  n_max : mg "max" = none
  n_min : mg "min" = none
  n_range : mg "range" = none
  n_str : mg "str" = none
  n_tuple : mg "tuple" = none
  n_zip : mg "zip" = none
  k_MOST_SIGNS : ∃ u, mg "MOST_SIGNS" = some u ∧ RelV (.int 40) u
  k_MOST_MARK : ∃ u, mg "MOST_MARK" = some u ∧ RelV (.int 3) u
  k_MOST_ROW : ∃ u, mg "MOST_ROW" = some u ∧ RelV (.int 4) u
  k_MOST_TEXT : ∃ u, mg "MOST_TEXT" = some u ∧ RelV (.int 200) u
  k_MOST_LENGTH : ∃ u, mg "MOST_LENGTH" = some u ∧ RelV (.int 500) u
  k_SIGNS : ∃ u, mg "SIGNS" = some u ∧ RelV (.str (PySem.Str.ofString ".0123456789abcdefghijklmnopqrstuvwxyz~")) u
  k_LEAST : ∃ u, mg "LEAST" = some u ∧ RelV (.str (PySem.Str.ofString ".")) u
  k_NEXT : ∃ u, mg "NEXT" = some u ∧ RelV (.str (PySem.Str.ofString "0")) u
  k_ENOUGH : ∃ u, mg "ENOUGH" = some u ∧ RelV (.int 81) u
  a_FORMS : Addr
  m_FORMS : mg "FORMS" = some (.ref a_FORMS)
  t_FORMS : V.KTab K "FORMS" a_FORMS [(PySem.Str.ofString "alike", 3), (PySem.Str.ofString "unlike", 3), (PySem.Str.ofString "stable", 2), (PySem.Str.ofString "unstable", 2), (PySem.Str.ofString "possible", 4), (PySem.Str.ofString "impossible", 4), (PySem.Str.ofString "confused", 2)]
  o_FORMS : V.KMis K a_FORMS [PySem.Str.ofString "A", PySem.Str.ofString "Alike", PySem.Str.ofString " ", PySem.Str.ofString "aaaaaaaaaaaaaaaaaaaaaaaaaaaaaaaaaaaaaaaaaaaaaaaaaaaaaaaaaaaaaaaaaaaaaaaaaaaaaaaaaaaaaaaaaaaaaaaaaaaaaaaaaaaaaaaaaaaaaaaaaaaaaaaaaaaaaaaaaaaaaaaaaaaaaaaaaaaaaaaaaaaaaaaaaaaaaaaaaaaaaaaaaaaaaaaaaaaaaaaaaaaaaaaaaaaaaaaaaaaaaaaaaaaaaaaaaaaaaaaaaaaaaaaaaaaaaaaaaaaaaaaaaaaaaaaaaaaaaaaaaaaaaaaaaaaaaaaaaaaaaaaaaaaaaaaaaaaaaaaaaaaaaaaaaaaaaaaaaaaaaaaaaaaaaaaaaaaaaaaaaaaaaaaaaaaaaaaaaaaaaaaaaaaaaaaaaaaaaaa-"]
  C_InputError : Addr
  m_InputError : mg "InputError" = some (.ref C_InputError)
  C_InvalidNumber : Addr
  m_InvalidNumber : mg "InvalidNumber" = some (.ref C_InvalidNumber)
  C_InvalidMark : Addr
  m_InvalidMark : mg "InvalidMark" = some (.ref C_InvalidMark)
  C_InvalidRow : Addr
  m_InvalidRow : mg "InvalidRow" = some (.ref C_InvalidRow)
  o_InvalidNumber : L2.OexC K C_InvalidNumber
  na_InvalidNumber_value : PySem.W.findIn K (.ref C_InvalidNumber) "value" = some none
  f_InvalidNumber___init__ : Addr
  d_InvalidNumber___init__ : FuncData
  F_InvalidNumber___init__ : L2.Fun K "__init__" "InvalidNumber.__init__" s_InvalidNumber___init__ f_InvalidNumber___init__ d_InvalidNumber___init__
  b_InvalidNumber___init__ : Binds K d_InvalidNumber___init__ p_InvalidNumber___init__ []
  i_InvalidNumber : PySem.W.findIn K (.ref C_InvalidNumber) "__init__" = some (some (.ref f_InvalidNumber___init__))
  j_InvalidNumber : PySem.W.typeIn K (.ref f_InvalidNumber___init__) = some (.type "function")
  o_InvalidMark : L2.OexC K C_InvalidMark
  na_InvalidMark_value : PySem.W.findIn K (.ref C_InvalidMark) "value" = some none
  f_InvalidMark___init__ : Addr
  d_InvalidMark___init__ : FuncData
  F_InvalidMark___init__ : L2.Fun K "__init__" "InvalidMark.__init__" s_InvalidMark___init__ f_InvalidMark___init__ d_InvalidMark___init__
  b_InvalidMark___init__ : Binds K d_InvalidMark___init__ p_InvalidMark___init__ []
  i_InvalidMark : PySem.W.findIn K (.ref C_InvalidMark) "__init__" = some (some (.ref f_InvalidMark___init__))
  j_InvalidMark : PySem.W.typeIn K (.ref f_InvalidMark___init__) = some (.type "function")
  o_InvalidRow : L2.OexC K C_InvalidRow
  na_InvalidRow_index : PySem.W.findIn K (.ref C_InvalidRow) "index" = some none
  f_InvalidRow___init__ : Addr
  d_InvalidRow___init__ : FuncData
  F_InvalidRow___init__ : L2.Fun K "__init__" "InvalidRow.__init__" s_InvalidRow___init__ f_InvalidRow___init__ d_InvalidRow___init__
  b_InvalidRow___init__ : Binds K d_InvalidRow___init__ p_InvalidRow___init__ []
  i_InvalidRow : PySem.W.findIn K (.ref C_InvalidRow) "__init__" = some (some (.ref f_InvalidRow___init__))
  j_InvalidRow : PySem.W.typeIn K (.ref f_InvalidRow___init__) = some (.type "function")
  eh_InputError_InputError : PySem.W.exmOne K (.ref C_InputError) (.ref C_InputError) = some true
  eh_InvalidNumber_InputError : PySem.W.exmOne K (.ref C_InvalidNumber) (.ref C_InputError) = some true
  eh_InvalidMark_InputError : PySem.W.exmOne K (.ref C_InvalidMark) (.ref C_InputError) = some true
  eh_InvalidRow_InputError : PySem.W.exmOne K (.ref C_InvalidRow) (.ref C_InputError) = some true
  C_Shortener : Addr
  m_Shortener : mg "Shortener" = some (.ref C_Shortener)
  c_Shortener : Cls K C_Shortener
  i_Shortener : C8.InsC K C_Shortener
  na_Shortener_limit : NoAttr K C_Shortener "limit"
  na_Shortener_head : NoAttr K C_Shortener "head"
  na_Shortener_tail : NoAttr K C_Shortener "tail"
  na_Shortener_mark : NoAttr K C_Shortener "mark"
  na_Shortener_told : NoAttr K C_Shortener "told"
  ne_Shortener : PySem.W.findIn K (.ref C_Shortener) "__ne__" = some (some (.builtin "object.__ne__"))
  mo_Shortener : PySem.W.mroIn K C_Shortener (.type "object") = some true
  no_Shortener : V.NoSub K C_Shortener
  kn_Shortener : PySem.W.kitOne K (.type "NoneType") (.ref C_Shortener) = some false
  ks_Shortener : PySem.W.kitOne K (.type "str") (.ref C_Shortener) = some false
  ktt_Shortener : PySem.W.kitOne K (.type "tuple") (.ref C_Shortener) = some false
  kt_Shortener : ∀ t ∈ (["NoneType", "bool", "int", "str", "list", "tuple", "dict"] : List String), PySem.W.kitOne K (.type t) (.ref C_Shortener) = some false
  kx_Shortener : ∀ t ∈ (["int", "bool", "str", "list", "tuple", "dict"] : List String), PySem.W.kitOne K (.ref C_Shortener) (.type t) = some false
  f_Shortener___init__ : Addr
  d_Shortener___init__ : FuncData
  F_Shortener___init__ : L2.Fun K "__init__" "Shortener.__init__" s_Shortener___init__ f_Shortener___init__ d_Shortener___init__
  b_Shortener___init__ : Binds K d_Shortener___init__ p_Shortener___init__ []
  M_Shortener : Mk K C_Shortener f_Shortener___init__
  f_Shortener_cut : Addr
  d_Shortener_cut : FuncData
  F_Shortener_cut : L2.Fun K "cut" "Shortener.cut" s_Shortener_cut f_Shortener_cut d_Shortener_cut
  b_Shortener_cut : Binds K d_Shortener_cut p_Shortener_cut []
  t_Shortener_cut : Meth K C_Shortener "cut" f_Shortener_cut
  f_Shortener___eq__ : Addr
  d_Shortener___eq__ : FuncData
  F_Shortener___eq__ : L2.Fun K "__eq__" "Shortener.__eq__" s_Shortener___eq__ f_Shortener___eq__ d_Shortener___eq__
  b_Shortener___eq__ : Binds K d_Shortener___eq__ p_Shortener___eq__ []
  t_Shortener___eq__ : Meth K C_Shortener "__eq__" f_Shortener___eq__
  f_Shortener___repr__ : Addr
  d_Shortener___repr__ : FuncData
  F_Shortener___repr__ : L2.Fun K "__repr__" "Shortener.__repr__" s_Shortener___repr__ f_Shortener___repr__ d_Shortener___repr__
  b_Shortener___repr__ : Binds K d_Shortener___repr__ p_Shortener___repr__ []
  t_Shortener___repr__ : Meth K C_Shortener "__repr__" f_Shortener___repr__
  f_is_integer : Addr
  d_is_integer : FuncData
  F_is_integer : L2.Fun K "is_integer" "is_integer" s_is_integer f_is_integer d_is_integer
  b_is_integer : Binds K d_is_integer p_is_integer []
  m_is_integer : mg "is_integer" = some (.ref f_is_integer)
  f_is_text : Addr
  d_is_text : FuncData
  F_is_text : L2.Fun K "is_text" "is_text" s_is_text f_is_text d_is_text
  b_is_text : Binds K d_is_text p_is_text []
  m_is_text : mg "is_text" = some (.ref f_is_text)
  f_is_length : Addr
  d_is_length : FuncData
  F_is_length : L2.Fun K "is_length" "is_length" s_is_length f_is_length d_is_length
  b_is_length : Binds K d_is_length p_is_length []
  m_is_length : mg "is_length" = some (.ref f_is_length)
  f_with_next : Addr
  d_with_next : FuncData
  F_with_next : L2.Fun K "with_next" "with_next" s_with_next f_with_next d_with_next
  b_with_next : Binds K d_with_next p_with_next []
  m_with_next : mg "with_next" = some (.ref f_with_next)
  f_check_number : Addr
  d_check_number : FuncData
  F_check_number : L2.Fun K "check_number" "check_number" s_check_number f_check_number d_check_number
  b_check_number : Binds K d_check_number p_check_number []
  m_check_number : mg "check_number" = some (.ref f_check_number)
  f_check_row : Addr
  d_check_row : FuncData
  F_check_row : L2.Fun K "check_row" "check_row" s_check_row f_check_row d_check_row
  b_check_row : Binds K d_check_row p_check_row []
  m_check_row : mg "check_row" = some (.ref f_check_row)
  f_cut_by : Addr
  d_cut_by : FuncData
  F_cut_by : L2.Fun K "cut_by" "cut_by" s_cut_by f_cut_by d_cut_by
  b_cut_by : Binds K d_cut_by p_cut_by []
  m_cut_by : mg "cut_by" = some (.ref f_cut_by)
  f_plan_of : Addr
  d_plan_of : FuncData
  F_plan_of : L2.Fun K "plan_of" "plan_of" s_plan_of f_plan_of d_plan_of
  b_plan_of : Binds K d_plan_of p_plan_of []
  m_plan_of : mg "plan_of" = some (.ref f_plan_of)
  f_parting_place : Addr
  d_parting_place : FuncData
  F_parting_place : L2.Fun K "parting_place" "parting_place" s_parting_place f_parting_place d_parting_place
  b_parting_place : Binds K d_parting_place p_parting_place []
  m_parting_place : mg "parting_place" = some (.ref f_parting_place)
  f_parting_text : Addr
  d_parting_text : FuncData
  F_parting_text : L2.Fun K "parting_text" "parting_text" s_parting_text f_parting_text d_parting_text
  b_parting_text : Binds K d_parting_text p_parting_text []
  m_parting_text : mg "parting_text" = some (.ref f_parting_text)
  f_first_unlike : Addr
  d_first_unlike : FuncData
  F_first_unlike : L2.Fun K "first_unlike" "first_unlike" s_first_unlike f_first_unlike d_first_unlike
  b_first_unlike : Binds K d_first_unlike p_first_unlike []
  m_first_unlike : mg "first_unlike" = some (.ref f_first_unlike)
  f_first_unstable : Addr
  d_first_unstable : FuncData
  F_first_unstable : L2.Fun K "first_unstable" "first_unstable" s_first_unstable f_first_unstable d_first_unstable
  b_first_unstable : Binds K d_first_unstable p_first_unstable []
  m_first_unstable : mg "first_unstable" = some (.ref f_first_unstable)
  f_known_signs : Addr
  d_known_signs : FuncData
  F_known_signs : L2.Fun K "known_signs" "known_signs" s_known_signs f_known_signs d_known_signs
  b_known_signs : Binds K d_known_signs p_known_signs []
  m_known_signs : mg "known_signs" = some (.ref f_known_signs)
  f_shortener_in : Addr
  d_shortener_in : FuncData
  F_shortener_in : L2.Fun K "shortener_in" "shortener_in" s_shortener_in f_shortener_in d_shortener_in
  b_shortener_in : Binds K d_shortener_in p_shortener_in []
  m_shortener_in : mg "shortener_in" = some (.ref f_shortener_in)
  f_row_in : Addr
  d_row_in : FuncData
  F_row_in : L2.Fun K "row_in" "row_in" s_row_in f_row_in d_row_in
  b_row_in : Binds K d_row_in p_row_in []
  m_row_in : mg "row_in" = some (.ref f_row_in)
  f_shown_by : Addr
  d_shown_by : FuncData
  F_shown_by : L2.Fun K "shown_by" "shown_by" s_shown_by f_shown_by d_shown_by
  b_shown_by : Binds K d_shown_by p_shown_by []
  m_shown_by : mg "shown_by" = some (.ref f_shown_by)
  f_is_nothing : Addr
  d_is_nothing : FuncData
  F_is_nothing : L2.Fun K "is_nothing" "is_nothing" s_is_nothing f_is_nothing d_is_nothing
  b_is_nothing : Binds K d_is_nothing p_is_nothing []
  m_is_nothing : mg "is_nothing" = some (.ref f_is_nothing)
  f_holds_of_two : Addr
  d_holds_of_two : FuncData
  F_holds_of_two : L2.Fun K "holds_of_two" "holds_of_two" s_holds_of_two f_holds_of_two d_holds_of_two
  b_holds_of_two : Binds K d_holds_of_two p_holds_of_two []
  m_holds_of_two : mg "holds_of_two" = some (.ref f_holds_of_two)
  f_holds_of_one : Addr
  d_holds_of_one : FuncData
  F_holds_of_one : L2.Fun K "holds_of_one" "holds_of_one" s_holds_of_one f_holds_of_one d_holds_of_one
  b_holds_of_one : Binds K d_holds_of_one p_holds_of_one []
  m_holds_of_one : mg "holds_of_one" = some (.ref f_holds_of_one)
  f_holds_of_shown : Addr
  d_holds_of_shown : FuncData
  F_holds_of_shown : L2.Fun K "holds_of_shown" "holds_of_shown" s_holds_of_shown f_holds_of_shown d_holds_of_shown
  b_holds_of_shown : Binds K d_holds_of_shown p_holds_of_shown []
  m_holds_of_shown : mg "holds_of_shown" = some (.ref f_holds_of_shown)
  f_holds_of_pair : Addr
  d_holds_of_pair : FuncData
  F_holds_of_pair : L2.Fun K "holds_of_pair" "holds_of_pair" s_holds_of_pair f_holds_of_pair d_holds_of_pair
  b_holds_of_pair : Binds K d_holds_of_pair p_holds_of_pair []
  m_holds_of_pair : mg "holds_of_pair" = some (.ref f_holds_of_pair)
  f_holds : Addr
  d_holds : FuncData
  F_holds : L2.Fun K "holds" "holds" s_holds f_holds d_holds
  b_holds : Binds K d_holds p_holds []
  m_holds : mg "holds" = some (.ref f_holds)
  f__law_pot : Addr
  d__law_pot : FuncData
  F__law_pot : L2.Fun K "_law_pot" "_law_pot" s__law_pot f__law_pot d__law_pot
  b__law_pot : Binds K d__law_pot p__law_pot []
  m__law_pot : mg "_law_pot" = some (.ref f__law_pot)
  f__law_ladle : Addr
  d__law_ladle : FuncData
  F__law_ladle : L2.Fun K "_law_ladle" "_law_ladle" s__law_ladle f__law_ladle d__law_ladle
  b__law_ladle : Binds K d__law_ladle p__law_ladle []
  m__law_ladle : mg "_law_ladle" = some (.ref f__law_ladle)
  f__law_one_of : Addr
  d__law_one_of : FuncData
  F__law_one_of : L2.Fun K "_law_one_of" "_law_one_of" s__law_one_of f__law_one_of d__law_one_of
  b__law_one_of : Binds K d__law_one_of p__law_one_of []
  m__law_one_of : mg "_law_one_of" = some (.ref f__law_one_of)
  f__law_good : Addr
  d__law_good : FuncData
  F__law_good : L2.Fun K "_law_good" "_law_good" s__law_good f__law_good d__law_good
  b__law_good : Binds K d__law_good p__law_good []
  m__law_good : mg "_law_good" = some (.ref f__law_good)
  f__law_odd : Addr
  d__law_odd : FuncData
  F__law_odd : L2.Fun K "_law_odd" "_law_odd" s__law_odd f__law_odd d__law_odd
  b__law_odd : Binds K d__law_odd p__law_odd []
  m__law_odd : mg "_law_odd" = some (.ref f__law_odd)
  f__law_bent : Addr
  d__law_bent : FuncData
  F__law_bent : L2.Fun K "_law_bent" "_law_bent" s__law_bent f__law_bent d__law_bent
  b__law_bent : Binds K d__law_bent p__law_bent []
  m__law_bent : mg "_law_bent" = some (.ref f__law_bent)
  f__law_right : Addr
  d__law_right : FuncData
  F__law_right : L2.Fun K "_law_right" "_law_right" s__law_right f__law_right d__law_right
  b__law_right : Binds K d__law_right p__law_right []
  m__law_right : mg "_law_right" = some (.ref f__law_right)
  f_law : Addr
  d_law : FuncData
  F_law : L2.Fun K "law" "law" s_law f_law d_law
  b_law : Binds K d_law p_law []
  m_law : mg "law" = some (.ref f_law)
set_option maxHeartbeats 16000000 in
theorem all_mk {K : PySem.W.Frag} {h : Heap} {mg : Str → Option Value} (X : K.In h) (G : h.Ns mainGlobals mg)
    {f_law : Addr} {oc_law kV_law dc_law pm_law cd_law ct_law : Value} {od_law an_law : Option Addr} {sl_law : Array (Option Value)}
    {f__law_right : Addr} {oc__law_right kV__law_right dc__law_right pm__law_right cd__law_right ct__law_right : Value} {od__law_right an__law_right : Option Addr} {sl__law_right : Array (Option Value)}
    {f__law_bent : Addr} {oc__law_bent kV__law_bent dc__law_bent pm__law_bent cd__law_bent ct__law_bent : Value} {od__law_bent an__law_bent : Option Addr} {sl__law_bent : Array (Option Value)}
    {f__law_odd : Addr} {oc__law_odd kV__law_odd dc__law_odd pm__law_odd cd__law_odd ct__law_odd : Value} {od__law_odd an__law_odd : Option Addr} {sl__law_odd : Array (Option Value)}
    {f__law_good : Addr} {oc__law_good kV__law_good dc__law_good pm__law_good cd__law_good ct__law_good : Value} {od__law_good an__law_good : Option Addr} {sl__law_good : Array (Option Value)}
    {f__law_one_of : Addr} {oc__law_one_of kV__law_one_of dc__law_one_of pm__law_one_of cd__law_one_of ct__law_one_of : Value} {od__law_one_of an__law_one_of : Option Addr} {sl__law_one_of : Array (Option Value)}
    {f__law_ladle : Addr} {oc__law_ladle kV__law_ladle dc__law_ladle pm__law_ladle cd__law_ladle ct__law_ladle : Value} {od__law_ladle an__law_ladle : Option Addr} {sl__law_ladle : Array (Option Value)}
    {f__law_pot : Addr} {oc__law_pot kV__law_pot dc__law_pot pm__law_pot cd__law_pot ct__law_pot : Value} {od__law_pot an__law_pot : Option Addr} {sl__law_pot : Array (Option Value)}
    {f_holds : Addr} {oc_holds kV_holds dc_holds pm_holds cd_holds ct_holds : Value} {od_holds an_holds : Option Addr} {sl_holds : Array (Option Value)}
    {f_holds_of_pair : Addr} {oc_holds_of_pair kV_holds_of_pair dc_holds_of_pair pm_holds_of_pair cd_holds_of_pair ct_holds_of_pair : Value} {od_holds_of_pair an_holds_of_pair : Option Addr} {sl_holds_of_pair : Array (Option Value)}
    {f_holds_of_shown : Addr} {oc_holds_of_shown kV_holds_of_shown dc_holds_of_shown pm_holds_of_shown cd_holds_of_shown ct_holds_of_shown : Value} {od_holds_of_shown an_holds_of_shown : Option Addr} {sl_holds_of_shown : Array (Option Value)}
    {f_holds_of_one : Addr} {oc_holds_of_one kV_holds_of_one dc_holds_of_one pm_holds_of_one cd_holds_of_one ct_holds_of_one : Value} {od_holds_of_one an_holds_of_one : Option Addr} {sl_holds_of_one : Array (Option Value)}
    {f_holds_of_two : Addr} {oc_holds_of_two kV_holds_of_two dc_holds_of_two pm_holds_of_two cd_holds_of_two ct_holds_of_two : Value} {od_holds_of_two an_holds_of_two : Option Addr} {sl_holds_of_two : Array (Option Value)}
    {f_is_nothing : Addr} {oc_is_nothing kV_is_nothing dc_is_nothing pm_is_nothing cd_is_nothing ct_is_nothing : Value} {od_is_nothing an_is_nothing : Option Addr} {sl_is_nothing : Array (Option Value)}
    {f_shown_by : Addr} {oc_shown_by kV_shown_by dc_shown_by pm_shown_by cd_shown_by ct_shown_by : Value} {od_shown_by an_shown_by : Option Addr} {sl_shown_by : Array (Option Value)}
    {f_row_in : Addr} {oc_row_in kV_row_in dc_row_in pm_row_in cd_row_in ct_row_in : Value} {od_row_in an_row_in : Option Addr} {sl_row_in : Array (Option Value)}
    {f_shortener_in : Addr} {oc_shortener_in kV_shortener_in dc_shortener_in pm_shortener_in cd_shortener_in ct_shortener_in : Value} {od_shortener_in an_shortener_in : Option Addr} {sl_shortener_in : Array (Option Value)}
    {f_known_signs : Addr} {oc_known_signs kV_known_signs dc_known_signs pm_known_signs cd_known_signs ct_known_signs : Value} {od_known_signs an_known_signs : Option Addr} {sl_known_signs : Array (Option Value)}
    {f_first_unstable : Addr} {oc_first_unstable kV_first_unstable dc_first_unstable pm_first_unstable cd_first_unstable ct_first_unstable : Value} {od_first_unstable an_first_unstable : Option Addr} {sl_first_unstable : Array (Option Value)}
    {f_first_unlike : Addr} {oc_first_unlike kV_first_unlike dc_first_unlike pm_first_unlike cd_first_unlike ct_first_unlike : Value} {od_first_unlike an_first_unlike : Option Addr} {sl_first_unlike : Array (Option Value)}
    {f_parting_text : Addr} {oc_parting_text kV_parting_text dc_parting_text pm_parting_text cd_parting_text ct_parting_text : Value} {od_parting_text an_parting_text : Option Addr} {sl_parting_text : Array (Option Value)}
    {f_parting_place : Addr} {oc_parting_place kV_parting_place dc_parting_place pm_parting_place cd_parting_place ct_parting_place : Value} {od_parting_place an_parting_place : Option Addr} {sl_parting_place : Array (Option Value)}
    {f_plan_of : Addr} {oc_plan_of kV_plan_of dc_plan_of pm_plan_of cd_plan_of ct_plan_of : Value} {od_plan_of an_plan_of : Option Addr} {sl_plan_of : Array (Option Value)}
    {f_cut_by : Addr} {oc_cut_by kV_cut_by dc_cut_by pm_cut_by cd_cut_by ct_cut_by : Value} {od_cut_by an_cut_by : Option Addr} {sl_cut_by : Array (Option Value)}
    {f_check_row : Addr} {oc_check_row kV_check_row dc_check_row pm_check_row cd_check_row ct_check_row : Value} {od_check_row an_check_row : Option Addr} {sl_check_row : Array (Option Value)}
    {f_check_number : Addr} {oc_check_number kV_check_number dc_check_number pm_check_number cd_check_number ct_check_number : Value} {od_check_number an_check_number : Option Addr} {sl_check_number : Array (Option Value)}
    {f_with_next : Addr} {oc_with_next kV_with_next dc_with_next pm_with_next cd_with_next ct_with_next : Value} {od_with_next an_with_next : Option Addr} {sl_with_next : Array (Option Value)}
    {f_is_length : Addr} {oc_is_length kV_is_length dc_is_length pm_is_length cd_is_length ct_is_length : Value} {od_is_length an_is_length : Option Addr} {sl_is_length : Array (Option Value)}
    {f_is_text : Addr} {oc_is_text kV_is_text dc_is_text pm_is_text cd_is_text ct_is_text : Value} {od_is_text an_is_text : Option Addr} {sl_is_text : Array (Option Value)}
    {f_is_integer : Addr} {oc_is_integer kV_is_integer dc_is_integer pm_is_integer cd_is_integer ct_is_integer : Value} {od_is_integer an_is_integer : Option Addr} {sl_is_integer : Array (Option Value)}
    {f_Shortener___repr__ : Addr} {oc_Shortener___repr__ kV_Shortener___repr__ dc_Shortener___repr__ pm_Shortener___repr__ cd_Shortener___repr__ ct_Shortener___repr__ : Value} {od_Shortener___repr__ an_Shortener___repr__ : Option Addr} {sl_Shortener___repr__ : Array (Option Value)}
    {f_Shortener___eq__ : Addr} {oc_Shortener___eq__ kV_Shortener___eq__ dc_Shortener___eq__ pm_Shortener___eq__ cd_Shortener___eq__ ct_Shortener___eq__ : Value} {od_Shortener___eq__ an_Shortener___eq__ : Option Addr} {sl_Shortener___eq__ : Array (Option Value)}
    {f_Shortener_cut : Addr} {oc_Shortener_cut kV_Shortener_cut dc_Shortener_cut pm_Shortener_cut cd_Shortener_cut ct_Shortener_cut : Value} {od_Shortener_cut an_Shortener_cut : Option Addr} {sl_Shortener_cut : Array (Option Value)}
    {f_Shortener___init__ : Addr} {oc_Shortener___init__ kV_Shortener___init__ dc_Shortener___init__ pm_Shortener___init__ cd_Shortener___init__ ct_Shortener___init__ : Value} {od_Shortener___init__ an_Shortener___init__ : Option Addr} {sl_Shortener___init__ : Array (Option Value)}
    {C_Shortener : Addr}
    {f_InvalidRow___init__ : Addr} {oc_InvalidRow___init__ kV_InvalidRow___init__ dc_InvalidRow___init__ pm_InvalidRow___init__ cd_InvalidRow___init__ ct_InvalidRow___init__ : Value} {od_InvalidRow___init__ an_InvalidRow___init__ : Option Addr} {sl_InvalidRow___init__ : Array (Option Value)}
    {nm_InvalidRow q_InvalidRow : Str} {N_InvalidRow : Addr} {bs_InvalidRow bm_InvalidRow sub_InvalidRow : List Value} {sn_InvalidRow : List Str} {ab_InvalidRow : Bool} {col_InvalidRow : Option Bool} {dd_InvalidRow : Option Addr} {e0_InvalidRow e1_InvalidRow e2_InvalidRow e3_InvalidRow e5_InvalidRow : Option Value}
    {f_InvalidMark___init__ : Addr} {oc_InvalidMark___init__ kV_InvalidMark___init__ dc_InvalidMark___init__ pm_InvalidMark___init__ cd_InvalidMark___init__ ct_InvalidMark___init__ : Value} {od_InvalidMark___init__ an_InvalidMark___init__ : Option Addr} {sl_InvalidMark___init__ : Array (Option Value)}
    {nm_InvalidMark q_InvalidMark : Str} {N_InvalidMark : Addr} {bs_InvalidMark bm_InvalidMark sub_InvalidMark : List Value} {sn_InvalidMark : List Str} {ab_InvalidMark : Bool} {col_InvalidMark : Option Bool} {dd_InvalidMark : Option Addr} {e0_InvalidMark e1_InvalidMark e2_InvalidMark e3_InvalidMark e5_InvalidMark : Option Value}
    {f_InvalidNumber___init__ : Addr} {oc_InvalidNumber___init__ kV_InvalidNumber___init__ dc_InvalidNumber___init__ pm_InvalidNumber___init__ cd_InvalidNumber___init__ ct_InvalidNumber___init__ : Value} {od_InvalidNumber___init__ an_InvalidNumber___init__ : Option Addr} {sl_InvalidNumber___init__ : Array (Option Value)}
    {nm_InvalidNumber q_InvalidNumber : Str} {N_InvalidNumber : Addr} {bs_InvalidNumber bm_InvalidNumber sub_InvalidNumber : List Value} {sn_InvalidNumber : List Str} {ab_InvalidNumber : Bool} {col_InvalidNumber : Option Bool} {dd_InvalidNumber : Option Addr} {e0_InvalidNumber e1_InvalidNumber e2_InvalidNumber e3_InvalidNumber e5_InvalidNumber : Option Value}
    {C_InvalidRow : Addr}
    {C_InvalidMark : Addr}
    {C_InvalidNumber : Addr}
    {C_InputError : Addr}
    {ad_FORMS : Addr} {es_FORMS : Array DictEntry} {nn_FORMS : Nat} {tk_FORMS_0 tk_FORMS_1 tk_FORMS_2 tk_FORMS_3 tk_FORMS_4 tk_FORMS_5 tk_FORMS_6 : Tok}
    {tk_ENOUGH : Tok}
    {tk_NEXT : Tok}
    {tk_LEAST : Tok}
    {tk_SIGNS : Tok}
    {tk_MOST_LENGTH : Tok}
    {tk_MOST_TEXT : Tok}
    {tk_MOST_ROW : Tok}
    {tk_MOST_MARK : Tok}
    {tk_MOST_SIGNS : Tok}
    (x_n_abs : PySem.W.nsIn K mainGlobals "abs" = some none)
    (x_n_all : PySem.W.nsIn K mainGlobals "all" = some none)
    (x_n_bool : PySem.W.nsIn K mainGlobals "bool" = some none)
    (x_n_divmod : PySem.W.nsIn K mainGlobals "divmod" = some none)
    (x_n_enumerate : PySem.W.nsIn K mainGlobals "enumerate" = some none)
    (x_n_int : PySem.W.nsIn K mainGlobals "int" = some none)
    (x_n_isinstance : PySem.W.nsIn K mainGlobals "isinstance" = some none)
    (x_n_len : PySem.W.nsIn K mainGlobals "len" = some none)
    (x_n_list : PySem.W.nsIn K mainGlobals "list" = some none)
    (x_n_max : PySem.W.nsIn K mainGlobals "max" = some none)
    (x_n_min : PySem.W.nsIn K mainGlobals "min" = some none)
    (x_n_range : PySem.W.nsIn K mainGlobals "range" = some none)
    (x_n_str : PySem.W.nsIn K mainGlobals "str" = some none)
    (x_n_tuple : PySem.W.nsIn K mainGlobals "tuple" = some none)
    (x_n_zip : PySem.W.nsIn K mainGlobals "zip" = some none)
    (x_k_MOST_SIGNS : PySem.W.nsIn K mainGlobals "MOST_SIGNS" = some (some (.int 40 tk_MOST_SIGNS)))
    (x_k_MOST_MARK : PySem.W.nsIn K mainGlobals "MOST_MARK" = some (some (.int 3 tk_MOST_MARK)))
    (x_k_MOST_ROW : PySem.W.nsIn K mainGlobals "MOST_ROW" = some (some (.int 4 tk_MOST_ROW)))
    (x_k_MOST_TEXT : PySem.W.nsIn K mainGlobals "MOST_TEXT" = some (some (.int 200 tk_MOST_TEXT)))
    (x_k_MOST_LENGTH : PySem.W.nsIn K mainGlobals "MOST_LENGTH" = some (some (.int 500 tk_MOST_LENGTH)))
    (x_k_SIGNS : PySem.W.nsIn K mainGlobals "SIGNS" = some (some (.str (PySem.Str.ofString ".0123456789abcdefghijklmnopqrstuvwxyz~") tk_SIGNS)))
    (x_k_LEAST : PySem.W.nsIn K mainGlobals "LEAST" = some (some (.str (PySem.Str.ofString ".") tk_LEAST)))
    (x_k_NEXT : PySem.W.nsIn K mainGlobals "NEXT" = some (some (.str (PySem.Str.ofString "0") tk_NEXT)))
    (x_k_ENOUGH : PySem.W.nsIn K mainGlobals "ENOUGH" = some (some (.int 81 tk_ENOUGH)))
    (x_m_FORMS : PySem.W.nsIn K mainGlobals "FORMS" = some (some (.ref ad_FORMS)))
    (x_d_FORMS : K.lookup ad_FORMS = some ⟨.type "dict", none, .dict es_FORMS nn_FORMS, #[]⟩)
    (x_me_FORMS : (ad_FORMS == sysModules) = false)
    (x_v_FORMS_0 : PySem.W.nsIn K ad_FORMS "alike" = some (some (.int 3 tk_FORMS_0)))
    (x_v_FORMS_1 : PySem.W.nsIn K ad_FORMS "unlike" = some (some (.int 3 tk_FORMS_1)))
    (x_v_FORMS_2 : PySem.W.nsIn K ad_FORMS "stable" = some (some (.int 2 tk_FORMS_2)))
    (x_v_FORMS_3 : PySem.W.nsIn K ad_FORMS "unstable" = some (some (.int 2 tk_FORMS_3)))
    (x_v_FORMS_4 : PySem.W.nsIn K ad_FORMS "possible" = some (some (.int 4 tk_FORMS_4)))
    (x_v_FORMS_5 : PySem.W.nsIn K ad_FORMS "impossible" = some (some (.int 4 tk_FORMS_5)))
    (x_v_FORMS_6 : PySem.W.nsIn K ad_FORMS "confused" = some (some (.int 2 tk_FORMS_6)))
    (x_n_FORMS_0 : PySem.W.nsIn K ad_FORMS "A" = some none)
    (x_n_FORMS_1 : PySem.W.nsIn K ad_FORMS "Alike" = some none)
    (x_n_FORMS_2 : PySem.W.nsIn K ad_FORMS " " = some none)
    (x_n_FORMS_3 : PySem.W.nsIn K ad_FORMS "aaaaaaaaaaaaaaaaaaaaaaaaaaaaaaaaaaaaaaaaaaaaaaaaaaaaaaaaaaaaaaaaaaaaaaaaaaaaaaaaaaaaaaaaaaaaaaaaaaaaaaaaaaaaaaaaaaaaaaaaaaaaaaaaaaaaaaaaaaaaaaaaaaaaaaaaaaaaaaaaaaaaaaaaaaaaaaaaaaaaaaaaaaaaaaaaaaaaaaaaaaaaaaaaaaaaaaaaaaaaaaaaaaaaaaaaaaaaaaaaaaaaaaaaaaaaaaaaaaaaaaaaaaaaaaaaaaaaaaaaaaaaaaaaaaaaaaaaaaaaaaaaaaaaaaaaaaaaaaaaaaaaaaaaaaaaaaaaaaaaaaaaaaaaaaaaaaaaaaaaaaaaaaaaaaaaaaaaaaaaaaaaaaaaaaaaaaaaaaa-" = some none)
    (x_C_InputError : PySem.W.nsIn K mainGlobals "InputError" = some (some (.ref C_InputError)))
    (x_C_InvalidNumber : PySem.W.nsIn K mainGlobals "InvalidNumber" = some (some (.ref C_InvalidNumber)))
    (x_C_InvalidMark : PySem.W.nsIn K mainGlobals "InvalidMark" = some (some (.ref C_InvalidMark)))
    (x_C_InvalidRow : PySem.W.nsIn K mainGlobals "InvalidRow" = some (some (.ref C_InvalidRow)))
    (x_L_InvalidNumber : K.lookup C_InvalidNumber = some (excClassObj nm_InvalidNumber q_InvalidNumber C_InvalidNumber N_InvalidNumber bs_InvalidNumber bm_InvalidNumber true sn_InvalidNumber sub_InvalidNumber ab_InvalidNumber col_InvalidNumber dd_InvalidNumber e0_InvalidNumber e1_InvalidNumber e2_InvalidNumber e3_InvalidNumber e5_InvalidNumber "ValueError.__new__"))
    (x_me_R_InvalidNumber : PySem.HandSPX.refsVE bm_InvalidNumber = true)
    (x_xs_InvalidNumber : PySem.W.findIn K (.ref C_InvalidNumber) "__setattr__" = some (some (.builtin "object.__setattr__")))
    (x_xe_InvalidNumber : PySem.W.subIn K (.ref C_InvalidNumber) (.type "BaseException") = some true)
    (x_xt_InvalidNumber : PySem.W.typeIn K (.ref C_InvalidNumber) = some (.type "type"))
    (x_xk_InvalidNumber : PySem.W.keepIn K (.ref C_InvalidNumber) = true)
    (x_na_InvalidNumber_value : PySem.W.findIn K (.ref C_InvalidNumber) "value" = some none)
    (x_a_InvalidNumber___init__ : PySem.W.findIn K (.ref C_InvalidNumber) "__init__" = some (some (.ref f_InvalidNumber___init__)))
    (x_j_InvalidNumber___init__ : PySem.W.typeIn K (.ref f_InvalidNumber___init__) = some (.type "function"))
    (x_i_InvalidNumber___init__ : PySem.W.isFn K (.ref f_InvalidNumber___init__) = true)
    (x_l_InvalidNumber___init__ : K.lookup f_InvalidNumber___init__ = some ⟨oc_InvalidNumber___init__, od_InvalidNumber___init__, .func (PySem.W.fnOf "__init__" "InvalidNumber.__init__" (L2.defArgs s_InvalidNumber___init__) (L2.defBody s_InvalidNumber___init__) (L2.defScope s_InvalidNumber___init__) .none kV_InvalidNumber___init__ dc_InvalidNumber___init__ pm_InvalidNumber___init__ an_InvalidNumber___init__ cd_InvalidNumber___init__ ct_InvalidNumber___init__), sl_InvalidNumber___init__⟩)
    (x_c_InvalidNumber___init__ : PySem.W.codeIn K cd_InvalidNumber___init__ "InvalidNumber.__init__" = true)
    (x_k_InvalidNumber___init__ : PySem.W.keepIn K (.ref f_InvalidNumber___init__) = true)
    (x_L_InvalidMark : K.lookup C_InvalidMark = some (excClassObj nm_InvalidMark q_InvalidMark C_InvalidMark N_InvalidMark bs_InvalidMark bm_InvalidMark true sn_InvalidMark sub_InvalidMark ab_InvalidMark col_InvalidMark dd_InvalidMark e0_InvalidMark e1_InvalidMark e2_InvalidMark e3_InvalidMark e5_InvalidMark "ValueError.__new__"))
    (x_me_R_InvalidMark : PySem.HandSPX.refsVE bm_InvalidMark = true)
    (x_xs_InvalidMark : PySem.W.findIn K (.ref C_InvalidMark) "__setattr__" = some (some (.builtin "object.__setattr__")))
    (x_xe_InvalidMark : PySem.W.subIn K (.ref C_InvalidMark) (.type "BaseException") = some true)
    (x_xt_InvalidMark : PySem.W.typeIn K (.ref C_InvalidMark) = some (.type "type"))
    (x_xk_InvalidMark : PySem.W.keepIn K (.ref C_InvalidMark) = true)
    (x_na_InvalidMark_value : PySem.W.findIn K (.ref C_InvalidMark) "value" = some none)
    (x_a_InvalidMark___init__ : PySem.W.findIn K (.ref C_InvalidMark) "__init__" = some (some (.ref f_InvalidMark___init__)))
    (x_j_InvalidMark___init__ : PySem.W.typeIn K (.ref f_InvalidMark___init__) = some (.type "function"))
    (x_i_InvalidMark___init__ : PySem.W.isFn K (.ref f_InvalidMark___init__) = true)
    (x_l_InvalidMark___init__ : K.lookup f_InvalidMark___init__ = some ⟨oc_InvalidMark___init__, od_InvalidMark___init__, .func (PySem.W.fnOf "__init__" "InvalidMark.__init__" (L2.defArgs s_InvalidMark___init__) (L2.defBody s_InvalidMark___init__) (L2.defScope s_InvalidMark___init__) .none kV_InvalidMark___init__ dc_InvalidMark___init__ pm_InvalidMark___init__ an_InvalidMark___init__ cd_InvalidMark___init__ ct_InvalidMark___init__), sl_InvalidMark___init__⟩)
    (x_c_InvalidMark___init__ : PySem.W.codeIn K cd_InvalidMark___init__ "InvalidMark.__init__" = true)
    (x_k_InvalidMark___init__ : PySem.W.keepIn K (.ref f_InvalidMark___init__) = true)
    (x_L_InvalidRow : K.lookup C_InvalidRow = some (excClassObj nm_InvalidRow q_InvalidRow C_InvalidRow N_InvalidRow bs_InvalidRow bm_InvalidRow true sn_InvalidRow sub_InvalidRow ab_InvalidRow col_InvalidRow dd_InvalidRow e0_InvalidRow e1_InvalidRow e2_InvalidRow e3_InvalidRow e5_InvalidRow "ValueError.__new__"))
    (x_me_R_InvalidRow : PySem.HandSPX.refsVE bm_InvalidRow = true)
    (x_xs_InvalidRow : PySem.W.findIn K (.ref C_InvalidRow) "__setattr__" = some (some (.builtin "object.__setattr__")))
    (x_xe_InvalidRow : PySem.W.subIn K (.ref C_InvalidRow) (.type "BaseException") = some true)
    (x_xt_InvalidRow : PySem.W.typeIn K (.ref C_InvalidRow) = some (.type "type"))
    (x_xk_InvalidRow : PySem.W.keepIn K (.ref C_InvalidRow) = true)
    (x_na_InvalidRow_index : PySem.W.findIn K (.ref C_InvalidRow) "index" = some none)
    (x_a_InvalidRow___init__ : PySem.W.findIn K (.ref C_InvalidRow) "__init__" = some (some (.ref f_InvalidRow___init__)))
    (x_j_InvalidRow___init__ : PySem.W.typeIn K (.ref f_InvalidRow___init__) = some (.type "function"))
    (x_i_InvalidRow___init__ : PySem.W.isFn K (.ref f_InvalidRow___init__) = true)
    (x_l_InvalidRow___init__ : K.lookup f_InvalidRow___init__ = some ⟨oc_InvalidRow___init__, od_InvalidRow___init__, .func (PySem.W.fnOf "__init__" "InvalidRow.__init__" (L2.defArgs s_InvalidRow___init__) (L2.defBody s_InvalidRow___init__) (L2.defScope s_InvalidRow___init__) .none kV_InvalidRow___init__ dc_InvalidRow___init__ pm_InvalidRow___init__ an_InvalidRow___init__ cd_InvalidRow___init__ ct_InvalidRow___init__), sl_InvalidRow___init__⟩)
    (x_c_InvalidRow___init__ : PySem.W.codeIn K cd_InvalidRow___init__ "InvalidRow.__init__" = true)
    (x_k_InvalidRow___init__ : PySem.W.keepIn K (.ref f_InvalidRow___init__) = true)
    (x_me_eh_InputError_InputError : PySem.W.exmOne K (.ref C_InputError) (.ref C_InputError) = some true)
    (x_me_eh_InvalidNumber_InputError : PySem.W.exmOne K (.ref C_InvalidNumber) (.ref C_InputError) = some true)
    (x_me_eh_InvalidMark_InputError : PySem.W.exmOne K (.ref C_InvalidMark) (.ref C_InputError) = some true)
    (x_me_eh_InvalidRow_InputError : PySem.W.exmOne K (.ref C_InvalidRow) (.ref C_InputError) = some true)
    (x_C_Shortener : PySem.W.nsIn K mainGlobals "Shortener" = some (some (.ref C_Shortener)))
    (x_pg_Shortener : PySem.W.plainGet K C_Shortener Str.empty = true)
    (x_hd_Shortener : PySem.W.hasDictIn K C_Shortener = true)
    (x_po_Shortener : PySem.W.plainOver K C_Shortener = true)
    (x_sa_Shortener : PySem.W.findIn K (.ref C_Shortener) "__setattr__" = some (some (.builtin "object.__setattr__")))
    (x_mk_Shortener : PySem.W.makesIn K C_Shortener = true)
    (x_kc_Shortener : PySem.W.keepIn K (.ref C_Shortener) = true)
    (x_ha_Shortener : PySem.W.findIn K (.ref C_Shortener) "__class__" = some (some (.builtin "object.__class__")))
    (x_hn_Shortener : PySem.W.specialIn K (.builtin "object.__class__") "__get__" = some (some (.builtin "getset_descriptor.__get__")))
    (x_ht_Shortener : PySem.W.takesIn K (.builtin "object.__class__") = some true)
    (x_hm_Shortener : PySem.W.mroIn K C_Shortener (.type "object") = some true)
    (x_me_Shortener : PySem.W.kitOne K (.ref C_Shortener) (.ref C_Shortener) = some true)
    (x_na_Shortener_limit : PySem.W.findIn K (.ref C_Shortener) "limit" = some none)
    (x_na_Shortener_head : PySem.W.findIn K (.ref C_Shortener) "head" = some none)
    (x_na_Shortener_tail : PySem.W.findIn K (.ref C_Shortener) "tail" = some none)
    (x_na_Shortener_mark : PySem.W.findIn K (.ref C_Shortener) "mark" = some none)
    (x_na_Shortener_told : PySem.W.findIn K (.ref C_Shortener) "told" = some none)
    (x_ne_Shortener : PySem.W.findIn K (.ref C_Shortener) "__ne__" = some (some (.builtin "object.__ne__")))
    (x_non_Shortener : PySem.W.subIn K (.type "NoneType") (.ref C_Shortener) = some false)
    (x_nos_Shortener : PySem.W.subIn K (.type "str") (.ref C_Shortener) = some false)
    (x_not_Shortener : PySem.W.subIn K (.type "tuple") (.ref C_Shortener) = some false)
    (x_me_kn_Shortener : PySem.W.kitOne K (.type "NoneType") (.ref C_Shortener) = some false)
    (x_me_ks_Shortener : PySem.W.kitOne K (.type "str") (.ref C_Shortener) = some false)
    (x_me_ktt_Shortener : PySem.W.kitOne K (.type "tuple") (.ref C_Shortener) = some false)
    (x_me_kt_Shortener_NoneType : PySem.W.kitOne K (.type "NoneType") (.ref C_Shortener) = some false)
    (x_me_kt_Shortener_bool : PySem.W.kitOne K (.type "bool") (.ref C_Shortener) = some false)
    (x_me_kt_Shortener_int : PySem.W.kitOne K (.type "int") (.ref C_Shortener) = some false)
    (x_me_kt_Shortener_str : PySem.W.kitOne K (.type "str") (.ref C_Shortener) = some false)
    (x_me_kt_Shortener_list : PySem.W.kitOne K (.type "list") (.ref C_Shortener) = some false)
    (x_me_kt_Shortener_tuple : PySem.W.kitOne K (.type "tuple") (.ref C_Shortener) = some false)
    (x_me_kt_Shortener_dict : PySem.W.kitOne K (.type "dict") (.ref C_Shortener) = some false)
    (x_me_kx_Shortener_int : PySem.W.kitOne K (.ref C_Shortener) (.type "int") = some false)
    (x_me_kx_Shortener_bool : PySem.W.kitOne K (.ref C_Shortener) (.type "bool") = some false)
    (x_me_kx_Shortener_str : PySem.W.kitOne K (.ref C_Shortener) (.type "str") = some false)
    (x_me_kx_Shortener_list : PySem.W.kitOne K (.ref C_Shortener) (.type "list") = some false)
    (x_me_kx_Shortener_tuple : PySem.W.kitOne K (.ref C_Shortener) (.type "tuple") = some false)
    (x_me_kx_Shortener_dict : PySem.W.kitOne K (.ref C_Shortener) (.type "dict") = some false)
    (x_a_Shortener___init__ : PySem.W.findIn K (.ref C_Shortener) "__init__" = some (some (.ref f_Shortener___init__)))
    (x_i_Shortener___init__ : PySem.W.isFn K (.ref f_Shortener___init__) = true)
    (x_l_Shortener___init__ : K.lookup f_Shortener___init__ = some ⟨oc_Shortener___init__, od_Shortener___init__, .func (PySem.W.fnOf "__init__" "Shortener.__init__" (L2.defArgs s_Shortener___init__) (L2.defBody s_Shortener___init__) (L2.defScope s_Shortener___init__) .none kV_Shortener___init__ dc_Shortener___init__ pm_Shortener___init__ an_Shortener___init__ cd_Shortener___init__ ct_Shortener___init__), sl_Shortener___init__⟩)
    (x_c_Shortener___init__ : PySem.W.codeIn K cd_Shortener___init__ "Shortener.__init__" = true)
    (x_k_Shortener___init__ : PySem.W.keepIn K (.ref f_Shortener___init__) = true)
    (x_a_Shortener_cut : PySem.W.findIn K (.ref C_Shortener) "cut" = some (some (.ref f_Shortener_cut)))
    (x_i_Shortener_cut : PySem.W.isFn K (.ref f_Shortener_cut) = true)
    (x_l_Shortener_cut : K.lookup f_Shortener_cut = some ⟨oc_Shortener_cut, od_Shortener_cut, .func (PySem.W.fnOf "cut" "Shortener.cut" (L2.defArgs s_Shortener_cut) (L2.defBody s_Shortener_cut) (L2.defScope s_Shortener_cut) .none kV_Shortener_cut dc_Shortener_cut pm_Shortener_cut an_Shortener_cut cd_Shortener_cut ct_Shortener_cut), sl_Shortener_cut⟩)
    (x_c_Shortener_cut : PySem.W.codeIn K cd_Shortener_cut "Shortener.cut" = true)
    (x_k_Shortener_cut : PySem.W.keepIn K (.ref f_Shortener_cut) = true)
    (x_a_Shortener___eq__ : PySem.W.findIn K (.ref C_Shortener) "__eq__" = some (some (.ref f_Shortener___eq__)))
    (x_i_Shortener___eq__ : PySem.W.isFn K (.ref f_Shortener___eq__) = true)
    (x_l_Shortener___eq__ : K.lookup f_Shortener___eq__ = some ⟨oc_Shortener___eq__, od_Shortener___eq__, .func (PySem.W.fnOf "__eq__" "Shortener.__eq__" (L2.defArgs s_Shortener___eq__) (L2.defBody s_Shortener___eq__) (L2.defScope s_Shortener___eq__) .none kV_Shortener___eq__ dc_Shortener___eq__ pm_Shortener___eq__ an_Shortener___eq__ cd_Shortener___eq__ ct_Shortener___eq__), sl_Shortener___eq__⟩)
    (x_c_Shortener___eq__ : PySem.W.codeIn K cd_Shortener___eq__ "Shortener.__eq__" = true)
    (x_k_Shortener___eq__ : PySem.W.keepIn K (.ref f_Shortener___eq__) = true)
    (x_a_Shortener___repr__ : PySem.W.findIn K (.ref C_Shortener) "__repr__" = some (some (.ref f_Shortener___repr__)))
    (x_i_Shortener___repr__ : PySem.W.isFn K (.ref f_Shortener___repr__) = true)
    (x_l_Shortener___repr__ : K.lookup f_Shortener___repr__ = some ⟨oc_Shortener___repr__, od_Shortener___repr__, .func (PySem.W.fnOf "__repr__" "Shortener.__repr__" (L2.defArgs s_Shortener___repr__) (L2.defBody s_Shortener___repr__) (L2.defScope s_Shortener___repr__) .none kV_Shortener___repr__ dc_Shortener___repr__ pm_Shortener___repr__ an_Shortener___repr__ cd_Shortener___repr__ ct_Shortener___repr__), sl_Shortener___repr__⟩)
    (x_c_Shortener___repr__ : PySem.W.codeIn K cd_Shortener___repr__ "Shortener.__repr__" = true)
    (x_k_Shortener___repr__ : PySem.W.keepIn K (.ref f_Shortener___repr__) = true)
    (x_a_is_integer : PySem.W.nsIn K mainGlobals "is_integer" = some (some (.ref f_is_integer)))
    (x_i_is_integer : PySem.W.isFn K (.ref f_is_integer) = true)
    (x_l_is_integer : K.lookup f_is_integer = some ⟨oc_is_integer, od_is_integer, .func (PySem.W.fnOf "is_integer" "is_integer" (L2.defArgs s_is_integer) (L2.defBody s_is_integer) (L2.defScope s_is_integer) .none kV_is_integer dc_is_integer pm_is_integer an_is_integer cd_is_integer ct_is_integer), sl_is_integer⟩)
    (x_c_is_integer : PySem.W.codeIn K cd_is_integer "is_integer" = true)
    (x_k_is_integer : PySem.W.keepIn K (.ref f_is_integer) = true)
    (x_a_is_text : PySem.W.nsIn K mainGlobals "is_text" = some (some (.ref f_is_text)))
    (x_i_is_text : PySem.W.isFn K (.ref f_is_text) = true)
    (x_l_is_text : K.lookup f_is_text = some ⟨oc_is_text, od_is_text, .func (PySem.W.fnOf "is_text" "is_text" (L2.defArgs s_is_text) (L2.defBody s_is_text) (L2.defScope s_is_text) .none kV_is_text dc_is_text pm_is_text an_is_text cd_is_text ct_is_text), sl_is_text⟩)
    (x_c_is_text : PySem.W.codeIn K cd_is_text "is_text" = true)
    (x_k_is_text : PySem.W.keepIn K (.ref f_is_text) = true)
    (x_a_is_length : PySem.W.nsIn K mainGlobals "is_length" = some (some (.ref f_is_length)))
    (x_i_is_length : PySem.W.isFn K (.ref f_is_length) = true)
    (x_l_is_length : K.lookup f_is_length = some ⟨oc_is_length, od_is_length, .func (PySem.W.fnOf "is_length" "is_length" (L2.defArgs s_is_length) (L2.defBody s_is_length) (L2.defScope s_is_length) .none kV_is_length dc_is_length pm_is_length an_is_length cd_is_length ct_is_length), sl_is_length⟩)
    (x_c_is_length : PySem.W.codeIn K cd_is_length "is_length" = true)
    (x_k_is_length : PySem.W.keepIn K (.ref f_is_length) = true)
    (x_a_with_next : PySem.W.nsIn K mainGlobals "with_next" = some (some (.ref f_with_next)))
    (x_i_with_next : PySem.W.isFn K (.ref f_with_next) = true)
    (x_l_with_next : K.lookup f_with_next = some ⟨oc_with_next, od_with_next, .func (PySem.W.fnOf "with_next" "with_next" (L2.defArgs s_with_next) (L2.defBody s_with_next) (L2.defScope s_with_next) .none kV_with_next dc_with_next pm_with_next an_with_next cd_with_next ct_with_next), sl_with_next⟩)
    (x_c_with_next : PySem.W.codeIn K cd_with_next "with_next" = true)
    (x_k_with_next : PySem.W.keepIn K (.ref f_with_next) = true)
    (x_a_check_number : PySem.W.nsIn K mainGlobals "check_number" = some (some (.ref f_check_number)))
    (x_i_check_number : PySem.W.isFn K (.ref f_check_number) = true)
    (x_l_check_number : K.lookup f_check_number = some ⟨oc_check_number, od_check_number, .func (PySem.W.fnOf "check_number" "check_number" (L2.defArgs s_check_number) (L2.defBody s_check_number) (L2.defScope s_check_number) .none kV_check_number dc_check_number pm_check_number an_check_number cd_check_number ct_check_number), sl_check_number⟩)
    (x_c_check_number : PySem.W.codeIn K cd_check_number "check_number" = true)
    (x_k_check_number : PySem.W.keepIn K (.ref f_check_number) = true)
    (x_a_check_row : PySem.W.nsIn K mainGlobals "check_row" = some (some (.ref f_check_row)))
    (x_i_check_row : PySem.W.isFn K (.ref f_check_row) = true)
    (x_l_check_row : K.lookup f_check_row = some ⟨oc_check_row, od_check_row, .func (PySem.W.fnOf "check_row" "check_row" (L2.defArgs s_check_row) (L2.defBody s_check_row) (L2.defScope s_check_row) .none kV_check_row dc_check_row pm_check_row an_check_row cd_check_row ct_check_row), sl_check_row⟩)
    (x_c_check_row : PySem.W.codeIn K cd_check_row "check_row" = true)
    (x_k_check_row : PySem.W.keepIn K (.ref f_check_row) = true)
    (x_a_cut_by : PySem.W.nsIn K mainGlobals "cut_by" = some (some (.ref f_cut_by)))
    (x_i_cut_by : PySem.W.isFn K (.ref f_cut_by) = true)
    (x_l_cut_by : K.lookup f_cut_by = some ⟨oc_cut_by, od_cut_by, .func (PySem.W.fnOf "cut_by" "cut_by" (L2.defArgs s_cut_by) (L2.defBody s_cut_by) (L2.defScope s_cut_by) .none kV_cut_by dc_cut_by pm_cut_by an_cut_by cd_cut_by ct_cut_by), sl_cut_by⟩)
    (x_c_cut_by : PySem.W.codeIn K cd_cut_by "cut_by" = true)
    (x_k_cut_by : PySem.W.keepIn K (.ref f_cut_by) = true)
    (x_a_plan_of : PySem.W.nsIn K mainGlobals "plan_of" = some (some (.ref f_plan_of)))
    (x_i_plan_of : PySem.W.isFn K (.ref f_plan_of) = true)
    (x_l_plan_of : K.lookup f_plan_of = some ⟨oc_plan_of, od_plan_of, .func (PySem.W.fnOf "plan_of" "plan_of" (L2.defArgs s_plan_of) (L2.defBody s_plan_of) (L2.defScope s_plan_of) .none kV_plan_of dc_plan_of pm_plan_of an_plan_of cd_plan_of ct_plan_of), sl_plan_of⟩)
    (x_c_plan_of : PySem.W.codeIn K cd_plan_of "plan_of" = true)
    (x_k_plan_of : PySem.W.keepIn K (.ref f_plan_of) = true)
    (x_a_parting_place : PySem.W.nsIn K mainGlobals "parting_place" = some (some (.ref f_parting_place)))
    (x_i_parting_place : PySem.W.isFn K (.ref f_parting_place) = true)
    (x_l_parting_place : K.lookup f_parting_place = some ⟨oc_parting_place, od_parting_place, .func (PySem.W.fnOf "parting_place" "parting_place" (L2.defArgs s_parting_place) (L2.defBody s_parting_place) (L2.defScope s_parting_place) .none kV_parting_place dc_parting_place pm_parting_place an_parting_place cd_parting_place ct_parting_place), sl_parting_place⟩)
    (x_c_parting_place : PySem.W.codeIn K cd_parting_place "parting_place" = true)
    (x_k_parting_place : PySem.W.keepIn K (.ref f_parting_place) = true)
    (x_a_parting_text : PySem.W.nsIn K mainGlobals "parting_text" = some (some (.ref f_parting_text)))
    (x_i_parting_text : PySem.W.isFn K (.ref f_parting_text) = true)
    (x_l_parting_text : K.lookup f_parting_text = some ⟨oc_parting_text, od_parting_text, .func (PySem.W.fnOf "parting_text" "parting_text" (L2.defArgs s_parting_text) (L2.defBody s_parting_text) (L2.defScope s_parting_text) .none kV_parting_text dc_parting_text pm_parting_text an_parting_text cd_parting_text ct_parting_text), sl_parting_text⟩)
    (x_c_parting_text : PySem.W.codeIn K cd_parting_text "parting_text" = true)
    (x_k_parting_text : PySem.W.keepIn K (.ref f_parting_text) = true)
    (x_a_first_unlike : PySem.W.nsIn K mainGlobals "first_unlike" = some (some (.ref f_first_unlike)))
    (x_i_first_unlike : PySem.W.isFn K (.ref f_first_unlike) = true)
    (x_l_first_unlike : K.lookup f_first_unlike = some ⟨oc_first_unlike, od_first_unlike, .func (PySem.W.fnOf "first_unlike" "first_unlike" (L2.defArgs s_first_unlike) (L2.defBody s_first_unlike) (L2.defScope s_first_unlike) .none kV_first_unlike dc_first_unlike pm_first_unlike an_first_unlike cd_first_unlike ct_first_unlike), sl_first_unlike⟩)
    (x_c_first_unlike : PySem.W.codeIn K cd_first_unlike "first_unlike" = true)
    (x_k_first_unlike : PySem.W.keepIn K (.ref f_first_unlike) = true)
    (x_a_first_unstable : PySem.W.nsIn K mainGlobals "first_unstable" = some (some (.ref f_first_unstable)))
    (x_i_first_unstable : PySem.W.isFn K (.ref f_first_unstable) = true)
    (x_l_first_unstable : K.lookup f_first_unstable = some ⟨oc_first_unstable, od_first_unstable, .func (PySem.W.fnOf "first_unstable" "first_unstable" (L2.defArgs s_first_unstable) (L2.defBody s_first_unstable) (L2.defScope s_first_unstable) .none kV_first_unstable dc_first_unstable pm_first_unstable an_first_unstable cd_first_unstable ct_first_unstable), sl_first_unstable⟩)
    (x_c_first_unstable : PySem.W.codeIn K cd_first_unstable "first_unstable" = true)
    (x_k_first_unstable : PySem.W.keepIn K (.ref f_first_unstable) = true)
    (x_a_known_signs : PySem.W.nsIn K mainGlobals "known_signs" = some (some (.ref f_known_signs)))
    (x_i_known_signs : PySem.W.isFn K (.ref f_known_signs) = true)
    (x_l_known_signs : K.lookup f_known_signs = some ⟨oc_known_signs, od_known_signs, .func (PySem.W.fnOf "known_signs" "known_signs" (L2.defArgs s_known_signs) (L2.defBody s_known_signs) (L2.defScope s_known_signs) .none kV_known_signs dc_known_signs pm_known_signs an_known_signs cd_known_signs ct_known_signs), sl_known_signs⟩)
    (x_c_known_signs : PySem.W.codeIn K cd_known_signs "known_signs" = true)
    (x_k_known_signs : PySem.W.keepIn K (.ref f_known_signs) = true)
    (x_a_shortener_in : PySem.W.nsIn K mainGlobals "shortener_in" = some (some (.ref f_shortener_in)))
    (x_i_shortener_in : PySem.W.isFn K (.ref f_shortener_in) = true)
    (x_l_shortener_in : K.lookup f_shortener_in = some ⟨oc_shortener_in, od_shortener_in, .func (PySem.W.fnOf "shortener_in" "shortener_in" (L2.defArgs s_shortener_in) (L2.defBody s_shortener_in) (L2.defScope s_shortener_in) .none kV_shortener_in dc_shortener_in pm_shortener_in an_shortener_in cd_shortener_in ct_shortener_in), sl_shortener_in⟩)
    (x_c_shortener_in : PySem.W.codeIn K cd_shortener_in "shortener_in" = true)
    (x_k_shortener_in : PySem.W.keepIn K (.ref f_shortener_in) = true)
    (x_a_row_in : PySem.W.nsIn K mainGlobals "row_in" = some (some (.ref f_row_in)))
    (x_i_row_in : PySem.W.isFn K (.ref f_row_in) = true)
    (x_l_row_in : K.lookup f_row_in = some ⟨oc_row_in, od_row_in, .func (PySem.W.fnOf "row_in" "row_in" (L2.defArgs s_row_in) (L2.defBody s_row_in) (L2.defScope s_row_in) .none kV_row_in dc_row_in pm_row_in an_row_in cd_row_in ct_row_in), sl_row_in⟩)
    (x_c_row_in : PySem.W.codeIn K cd_row_in "row_in" = true)
    (x_k_row_in : PySem.W.keepIn K (.ref f_row_in) = true)
    (x_a_shown_by : PySem.W.nsIn K mainGlobals "shown_by" = some (some (.ref f_shown_by)))
    (x_i_shown_by : PySem.W.isFn K (.ref f_shown_by) = true)
    (x_l_shown_by : K.lookup f_shown_by = some ⟨oc_shown_by, od_shown_by, .func (PySem.W.fnOf "shown_by" "shown_by" (L2.defArgs s_shown_by) (L2.defBody s_shown_by) (L2.defScope s_shown_by) .none kV_shown_by dc_shown_by pm_shown_by an_shown_by cd_shown_by ct_shown_by), sl_shown_by⟩)
    (x_c_shown_by : PySem.W.codeIn K cd_shown_by "shown_by" = true)
    (x_k_shown_by : PySem.W.keepIn K (.ref f_shown_by) = true)
    (x_a_is_nothing : PySem.W.nsIn K mainGlobals "is_nothing" = some (some (.ref f_is_nothing)))
    (x_i_is_nothing : PySem.W.isFn K (.ref f_is_nothing) = true)
    (x_l_is_nothing : K.lookup f_is_nothing = some ⟨oc_is_nothing, od_is_nothing, .func (PySem.W.fnOf "is_nothing" "is_nothing" (L2.defArgs s_is_nothing) (L2.defBody s_is_nothing) (L2.defScope s_is_nothing) .none kV_is_nothing dc_is_nothing pm_is_nothing an_is_nothing cd_is_nothing ct_is_nothing), sl_is_nothing⟩)
    (x_c_is_nothing : PySem.W.codeIn K cd_is_nothing "is_nothing" = true)
    (x_k_is_nothing : PySem.W.keepIn K (.ref f_is_nothing) = true)
    (x_a_holds_of_two : PySem.W.nsIn K mainGlobals "holds_of_two" = some (some (.ref f_holds_of_two)))
    (x_i_holds_of_two : PySem.W.isFn K (.ref f_holds_of_two) = true)
    (x_l_holds_of_two : K.lookup f_holds_of_two = some ⟨oc_holds_of_two, od_holds_of_two, .func (PySem.W.fnOf "holds_of_two" "holds_of_two" (L2.defArgs s_holds_of_two) (L2.defBody s_holds_of_two) (L2.defScope s_holds_of_two) .none kV_holds_of_two dc_holds_of_two pm_holds_of_two an_holds_of_two cd_holds_of_two ct_holds_of_two), sl_holds_of_two⟩)
    (x_c_holds_of_two : PySem.W.codeIn K cd_holds_of_two "holds_of_two" = true)
    (x_k_holds_of_two : PySem.W.keepIn K (.ref f_holds_of_two) = true)
    (x_a_holds_of_one : PySem.W.nsIn K mainGlobals "holds_of_one" = some (some (.ref f_holds_of_one)))
    (x_i_holds_of_one : PySem.W.isFn K (.ref f_holds_of_one) = true)
    (x_l_holds_of_one : K.lookup f_holds_of_one = some ⟨oc_holds_of_one, od_holds_of_one, .func (PySem.W.fnOf "holds_of_one" "holds_of_one" (L2.defArgs s_holds_of_one) (L2.defBody s_holds_of_one) (L2.defScope s_holds_of_one) .none kV_holds_of_one dc_holds_of_one pm_holds_of_one an_holds_of_one cd_holds_of_one ct_holds_of_one), sl_holds_of_one⟩)
    (x_c_holds_of_one : PySem.W.codeIn K cd_holds_of_one "holds_of_one" = true)
    (x_k_holds_of_one : PySem.W.keepIn K (.ref f_holds_of_one) = true)
    (x_a_holds_of_shown : PySem.W.nsIn K mainGlobals "holds_of_shown" = some (some (.ref f_holds_of_shown)))
    (x_i_holds_of_shown : PySem.W.isFn K (.ref f_holds_of_shown) = true)
    (x_l_holds_of_shown : K.lookup f_holds_of_shown = some ⟨oc_holds_of_shown, od_holds_of_shown, .func (PySem.W.fnOf "holds_of_shown" "holds_of_shown" (L2.defArgs s_holds_of_shown) (L2.defBody s_holds_of_shown) (L2.defScope s_holds_of_shown) .none kV_holds_of_shown dc_holds_of_shown pm_holds_of_shown an_holds_of_shown cd_holds_of_shown ct_holds_of_shown), sl_holds_of_shown⟩)
    (x_c_holds_of_shown : PySem.W.codeIn K cd_holds_of_shown "holds_of_shown" = true)
    (x_k_holds_of_shown : PySem.W.keepIn K (.ref f_holds_of_shown) = true)
    (x_a_holds_of_pair : PySem.W.nsIn K mainGlobals "holds_of_pair" = some (some (.ref f_holds_of_pair)))
    (x_i_holds_of_pair : PySem.W.isFn K (.ref f_holds_of_pair) = true)
    (x_l_holds_of_pair : K.lookup f_holds_of_pair = some ⟨oc_holds_of_pair, od_holds_of_pair, .func (PySem.W.fnOf "holds_of_pair" "holds_of_pair" (L2.defArgs s_holds_of_pair) (L2.defBody s_holds_of_pair) (L2.defScope s_holds_of_pair) .none kV_holds_of_pair dc_holds_of_pair pm_holds_of_pair an_holds_of_pair cd_holds_of_pair ct_holds_of_pair), sl_holds_of_pair⟩)
    (x_c_holds_of_pair : PySem.W.codeIn K cd_holds_of_pair "holds_of_pair" = true)
    (x_k_holds_of_pair : PySem.W.keepIn K (.ref f_holds_of_pair) = true)
    (x_a_holds : PySem.W.nsIn K mainGlobals "holds" = some (some (.ref f_holds)))
    (x_i_holds : PySem.W.isFn K (.ref f_holds) = true)
    (x_l_holds : K.lookup f_holds = some ⟨oc_holds, od_holds, .func (PySem.W.fnOf "holds" "holds" (L2.defArgs s_holds) (L2.defBody s_holds) (L2.defScope s_holds) .none kV_holds dc_holds pm_holds an_holds cd_holds ct_holds), sl_holds⟩)
    (x_c_holds : PySem.W.codeIn K cd_holds "holds" = true)
    (x_k_holds : PySem.W.keepIn K (.ref f_holds) = true)
    (x_a__law_pot : PySem.W.nsIn K mainGlobals "_law_pot" = some (some (.ref f__law_pot)))
    (x_i__law_pot : PySem.W.isFn K (.ref f__law_pot) = true)
    (x_l__law_pot : K.lookup f__law_pot = some ⟨oc__law_pot, od__law_pot, .func (PySem.W.fnOf "_law_pot" "_law_pot" (L2.defArgs s__law_pot) (L2.defBody s__law_pot) (L2.defScope s__law_pot) .none kV__law_pot dc__law_pot pm__law_pot an__law_pot cd__law_pot ct__law_pot), sl__law_pot⟩)
    (x_c__law_pot : PySem.W.codeIn K cd__law_pot "_law_pot" = true)
    (x_k__law_pot : PySem.W.keepIn K (.ref f__law_pot) = true)
    (x_a__law_ladle : PySem.W.nsIn K mainGlobals "_law_ladle" = some (some (.ref f__law_ladle)))
    (x_i__law_ladle : PySem.W.isFn K (.ref f__law_ladle) = true)
    (x_l__law_ladle : K.lookup f__law_ladle = some ⟨oc__law_ladle, od__law_ladle, .func (PySem.W.fnOf "_law_ladle" "_law_ladle" (L2.defArgs s__law_ladle) (L2.defBody s__law_ladle) (L2.defScope s__law_ladle) .none kV__law_ladle dc__law_ladle pm__law_ladle an__law_ladle cd__law_ladle ct__law_ladle), sl__law_ladle⟩)
    (x_c__law_ladle : PySem.W.codeIn K cd__law_ladle "_law_ladle" = true)
    (x_k__law_ladle : PySem.W.keepIn K (.ref f__law_ladle) = true)
    (x_a__law_one_of : PySem.W.nsIn K mainGlobals "_law_one_of" = some (some (.ref f__law_one_of)))
    (x_i__law_one_of : PySem.W.isFn K (.ref f__law_one_of) = true)
    (x_l__law_one_of : K.lookup f__law_one_of = some ⟨oc__law_one_of, od__law_one_of, .func (PySem.W.fnOf "_law_one_of" "_law_one_of" (L2.defArgs s__law_one_of) (L2.defBody s__law_one_of) (L2.defScope s__law_one_of) .none kV__law_one_of dc__law_one_of pm__law_one_of an__law_one_of cd__law_one_of ct__law_one_of), sl__law_one_of⟩)
    (x_c__law_one_of : PySem.W.codeIn K cd__law_one_of "_law_one_of" = true)
    (x_k__law_one_of : PySem.W.keepIn K (.ref f__law_one_of) = true)
    (x_a__law_good : PySem.W.nsIn K mainGlobals "_law_good" = some (some (.ref f__law_good)))
    (x_i__law_good : PySem.W.isFn K (.ref f__law_good) = true)
    (x_l__law_good : K.lookup f__law_good = some ⟨oc__law_good, od__law_good, .func (PySem.W.fnOf "_law_good" "_law_good" (L2.defArgs s__law_good) (L2.defBody s__law_good) (L2.defScope s__law_good) .none kV__law_good dc__law_good pm__law_good an__law_good cd__law_good ct__law_good), sl__law_good⟩)
    (x_c__law_good : PySem.W.codeIn K cd__law_good "_law_good" = true)
    (x_k__law_good : PySem.W.keepIn K (.ref f__law_good) = true)
    (x_a__law_odd : PySem.W.nsIn K mainGlobals "_law_odd" = some (some (.ref f__law_odd)))
    (x_i__law_odd : PySem.W.isFn K (.ref f__law_odd) = true)
    (x_l__law_odd : K.lookup f__law_odd = some ⟨oc__law_odd, od__law_odd, .func (PySem.W.fnOf "_law_odd" "_law_odd" (L2.defArgs s__law_odd) (L2.defBody s__law_odd) (L2.defScope s__law_odd) .none kV__law_odd dc__law_odd pm__law_odd an__law_odd cd__law_odd ct__law_odd), sl__law_odd⟩)
    (x_c__law_odd : PySem.W.codeIn K cd__law_odd "_law_odd" = true)
    (x_k__law_odd : PySem.W.keepIn K (.ref f__law_odd) = true)
    (x_a__law_bent : PySem.W.nsIn K mainGlobals "_law_bent" = some (some (.ref f__law_bent)))
    (x_i__law_bent : PySem.W.isFn K (.ref f__law_bent) = true)
    (x_l__law_bent : K.lookup f__law_bent = some ⟨oc__law_bent, od__law_bent, .func (PySem.W.fnOf "_law_bent" "_law_bent" (L2.defArgs s__law_bent) (L2.defBody s__law_bent) (L2.defScope s__law_bent) .none kV__law_bent dc__law_bent pm__law_bent an__law_bent cd__law_bent ct__law_bent), sl__law_bent⟩)
    (x_c__law_bent : PySem.W.codeIn K cd__law_bent "_law_bent" = true)
    (x_k__law_bent : PySem.W.keepIn K (.ref f__law_bent) = true)
    (x_a__law_right : PySem.W.nsIn K mainGlobals "_law_right" = some (some (.ref f__law_right)))
    (x_i__law_right : PySem.W.isFn K (.ref f__law_right) = true)
    (x_l__law_right : K.lookup f__law_right = some ⟨oc__law_right, od__law_right, .func (PySem.W.fnOf "_law_right" "_law_right" (L2.defArgs s__law_right) (L2.defBody s__law_right) (L2.defScope s__law_right) .none kV__law_right dc__law_right pm__law_right an__law_right cd__law_right ct__law_right), sl__law_right⟩)
    (x_c__law_right : PySem.W.codeIn K cd__law_right "_law_right" = true)
    (x_k__law_right : PySem.W.keepIn K (.ref f__law_right) = true)
    (x_a_law : PySem.W.nsIn K mainGlobals "law" = some (some (.ref f_law)))
    (x_i_law : PySem.W.isFn K (.ref f_law) = true)
    (x_l_law : K.lookup f_law = some ⟨oc_law, od_law, .func (PySem.W.fnOf "law" "law" (L2.defArgs s_law) (L2.defBody s_law) (L2.defScope s_law) .none kV_law dc_law pm_law an_law cd_law ct_law), sl_law⟩)
    (x_c_law : PySem.W.codeIn K cd_law "law" = true)
    (x_k_law : PySem.W.keepIn K (.ref f_law) = true) : ∃ T : Tx K mg, T.f_law = f_law := by
  exact ⟨⟨PySem.W.mg_none_of X G x_n_abs,
    PySem.W.mg_none_of X G x_n_all,
    PySem.W.mg_none_of X G x_n_bool,
    PySem.W.mg_none_of X G x_n_divmod,
    PySem.W.mg_none_of X G x_n_enumerate,
    PySem.W.mg_none_of X G x_n_int,
    PySem.W.mg_none_of X G x_n_isinstance,
    PySem.W.mg_none_of X G x_n_len,
    PySem.W.mg_none_of X G x_n_list,
    PySem.W.mg_none_of X G x_n_max,
    PySem.W.mg_none_of X G x_n_min,
    PySem.W.mg_none_of X G x_n_range,
    PySem.W.mg_none_of X G x_n_str,
    PySem.W.mg_none_of X G x_n_tuple,
    PySem.W.mg_none_of X G x_n_zip,
    ⟨_, PySem.W.mg_of X G x_k_MOST_SIGNS, _, rfl⟩,
    ⟨_, PySem.W.mg_of X G x_k_MOST_MARK, _, rfl⟩,
    ⟨_, PySem.W.mg_of X G x_k_MOST_ROW, _, rfl⟩,
    ⟨_, PySem.W.mg_of X G x_k_MOST_TEXT, _, rfl⟩,
    ⟨_, PySem.W.mg_of X G x_k_MOST_LENGTH, _, rfl⟩,
    ⟨_, PySem.W.mg_of X G x_k_SIGNS, _, rfl⟩,
    ⟨_, PySem.W.mg_of X G x_k_LEAST, _, rfl⟩,
    ⟨_, PySem.W.mg_of X G x_k_NEXT, _, rfl⟩,
    ⟨_, PySem.W.mg_of X G x_k_ENOUGH, _, rfl⟩,
    ad_FORMS,
    PySem.W.mg_of X G x_m_FORMS,
    ⟨⟨_, _, x_d_FORMS⟩, x_m_FORMS, x_me_FORMS, V.KVals.val ⟨⟨_, x_v_FORMS_0⟩, ⟨_, x_v_FORMS_1⟩, ⟨_, x_v_FORMS_2⟩, ⟨_, x_v_FORMS_3⟩, ⟨_, x_v_FORMS_4⟩, ⟨_, x_v_FORMS_5⟩, ⟨_, x_v_FORMS_6⟩, trivial⟩⟩,
    V.kmis_cons x_n_FORMS_0 (V.kmis_cons x_n_FORMS_1 (V.kmis_cons x_n_FORMS_2 (V.kmis_cons x_n_FORMS_3 (V.kmis_nil)))),
    C_InputError,
    PySem.W.mg_of X G x_C_InputError,
    C_InvalidNumber,
    PySem.W.mg_of X G x_C_InvalidNumber,
    C_InvalidMark,
    PySem.W.mg_of X G x_C_InvalidMark,
    C_InvalidRow,
    PySem.W.mg_of X G x_C_InvalidRow,
    ⟨⟨nm_InvalidNumber, q_InvalidNumber, N_InvalidNumber, bs_InvalidNumber, bm_InvalidNumber, sn_InvalidNumber, sub_InvalidNumber, ab_InvalidNumber, col_InvalidNumber, dd_InvalidNumber, e0_InvalidNumber, e1_InvalidNumber, e2_InvalidNumber, e3_InvalidNumber, e5_InvalidNumber, x_L_InvalidNumber, x_me_R_InvalidNumber⟩, x_xs_InvalidNumber, x_xe_InvalidNumber, x_xt_InvalidNumber, x_xk_InvalidNumber⟩,
    x_na_InvalidNumber_value,
    f_InvalidNumber___init__,
    _,
    (fun_mk (st := s_InvalidNumber___init__) x_l_InvalidNumber___init__ x_c_InvalidNumber___init__ x_k_InvalidNumber___init__),
    (fun_mk (st := s_InvalidNumber___init__) x_l_InvalidNumber___init__ x_c_InvalidNumber___init__ x_k_InvalidNumber___init__).binds (ps := p_InvalidNumber___init__) fun _ _ _ _ _ _ us hl => match us, hl with | [_, _], _ => rfl,
    x_a_InvalidNumber___init__,
    x_j_InvalidNumber___init__,
    ⟨⟨nm_InvalidMark, q_InvalidMark, N_InvalidMark, bs_InvalidMark, bm_InvalidMark, sn_InvalidMark, sub_InvalidMark, ab_InvalidMark, col_InvalidMark, dd_InvalidMark, e0_InvalidMark, e1_InvalidMark, e2_InvalidMark, e3_InvalidMark, e5_InvalidMark, x_L_InvalidMark, x_me_R_InvalidMark⟩, x_xs_InvalidMark, x_xe_InvalidMark, x_xt_InvalidMark, x_xk_InvalidMark⟩,
    x_na_InvalidMark_value,
    f_InvalidMark___init__,
    _,
    (fun_mk (st := s_InvalidMark___init__) x_l_InvalidMark___init__ x_c_InvalidMark___init__ x_k_InvalidMark___init__),
    (fun_mk (st := s_InvalidMark___init__) x_l_InvalidMark___init__ x_c_InvalidMark___init__ x_k_InvalidMark___init__).binds (ps := p_InvalidMark___init__) fun _ _ _ _ _ _ us hl => match us, hl with | [_, _], _ => rfl,
    x_a_InvalidMark___init__,
    x_j_InvalidMark___init__,
    ⟨⟨nm_InvalidRow, q_InvalidRow, N_InvalidRow, bs_InvalidRow, bm_InvalidRow, sn_InvalidRow, sub_InvalidRow, ab_InvalidRow, col_InvalidRow, dd_InvalidRow, e0_InvalidRow, e1_InvalidRow, e2_InvalidRow, e3_InvalidRow, e5_InvalidRow, x_L_InvalidRow, x_me_R_InvalidRow⟩, x_xs_InvalidRow, x_xe_InvalidRow, x_xt_InvalidRow, x_xk_InvalidRow⟩,
    x_na_InvalidRow_index,
    f_InvalidRow___init__,
    _,
    (fun_mk (st := s_InvalidRow___init__) x_l_InvalidRow___init__ x_c_InvalidRow___init__ x_k_InvalidRow___init__),
    (fun_mk (st := s_InvalidRow___init__) x_l_InvalidRow___init__ x_c_InvalidRow___init__ x_k_InvalidRow___init__).binds (ps := p_InvalidRow___init__) fun _ _ _ _ _ _ us hl => match us, hl with | [_, _], _ => rfl,
    x_a_InvalidRow___init__,
    x_j_InvalidRow___init__,
    x_me_eh_InputError_InputError,
    x_me_eh_InvalidNumber_InputError,
    x_me_eh_InvalidMark_InputError,
    x_me_eh_InvalidRow_InputError,
    C_Shortener,
    PySem.W.mg_of X G x_C_Shortener,
    ⟨x_pg_Shortener, x_hd_Shortener, x_po_Shortener, x_sa_Shortener⟩,
    ⟨⟨x_pg_Shortener, x_hd_Shortener, x_po_Shortener, x_sa_Shortener⟩, x_ha_Shortener, x_hn_Shortener, x_ht_Shortener, x_hm_Shortener, x_me_Shortener⟩,
    x_na_Shortener_limit,
    x_na_Shortener_head,
    x_na_Shortener_tail,
    x_na_Shortener_mark,
    x_na_Shortener_told,
    x_ne_Shortener,
    x_hm_Shortener,
    ⟨x_non_Shortener, x_nos_Shortener, x_not_Shortener⟩,
    x_me_kn_Shortener,
    x_me_ks_Shortener,
    x_me_ktt_Shortener,
    (V.kt_of x_me_kt_Shortener_NoneType x_me_kt_Shortener_bool x_me_kt_Shortener_int x_me_kt_Shortener_str x_me_kt_Shortener_list x_me_kt_Shortener_tuple x_me_kt_Shortener_dict),
    (V.kx_of x_me_kx_Shortener_int x_me_kx_Shortener_bool x_me_kx_Shortener_str x_me_kx_Shortener_list x_me_kx_Shortener_tuple x_me_kx_Shortener_dict),
    f_Shortener___init__,
    _,
    (fun_mk (st := s_Shortener___init__) x_l_Shortener___init__ x_c_Shortener___init__ x_k_Shortener___init__),
    (fun_mk (st := s_Shortener___init__) x_l_Shortener___init__ x_c_Shortener___init__ x_k_Shortener___init__).binds (ps := p_Shortener___init__) fun _ _ _ _ _ _ us hl => match us, hl with | [_, _, _, _, _], _ => rfl,
    ⟨x_mk_Shortener, x_a_Shortener___init__, x_i_Shortener___init__, x_kc_Shortener⟩,
    f_Shortener_cut,
    _,
    (fun_mk (st := s_Shortener_cut) x_l_Shortener_cut x_c_Shortener_cut x_k_Shortener_cut),
    (fun_mk (st := s_Shortener_cut) x_l_Shortener_cut x_c_Shortener_cut x_k_Shortener_cut).binds (ps := p_Shortener_cut) fun _ _ _ _ _ _ us hl => match us, hl with | [_, _], _ => rfl,
    ⟨x_a_Shortener_cut, x_i_Shortener_cut, x_k_Shortener_cut⟩,
    f_Shortener___eq__,
    _,
    (fun_mk (st := s_Shortener___eq__) x_l_Shortener___eq__ x_c_Shortener___eq__ x_k_Shortener___eq__),
    (fun_mk (st := s_Shortener___eq__) x_l_Shortener___eq__ x_c_Shortener___eq__ x_k_Shortener___eq__).binds (ps := p_Shortener___eq__) fun _ _ _ _ _ _ us hl => match us, hl with | [_, _], _ => rfl,
    ⟨x_a_Shortener___eq__, x_i_Shortener___eq__, x_k_Shortener___eq__⟩,
    f_Shortener___repr__,
    _,
    (fun_mk (st := s_Shortener___repr__) x_l_Shortener___repr__ x_c_Shortener___repr__ x_k_Shortener___repr__),
    (fun_mk (st := s_Shortener___repr__) x_l_Shortener___repr__ x_c_Shortener___repr__ x_k_Shortener___repr__).binds (ps := p_Shortener___repr__) fun _ _ _ _ _ _ us hl => match us, hl with | [_], _ => rfl,
    ⟨x_a_Shortener___repr__, x_i_Shortener___repr__, x_k_Shortener___repr__⟩,
    f_is_integer,
    _,
    (fun_mk (st := s_is_integer) x_l_is_integer x_c_is_integer x_k_is_integer),
    (fun_mk (st := s_is_integer) x_l_is_integer x_c_is_integer x_k_is_integer).binds (ps := p_is_integer) fun _ _ _ _ _ _ us hl => match us, hl with | [_], _ => rfl,
    PySem.W.mg_of X G x_a_is_integer,
    f_is_text,
    _,
    (fun_mk (st := s_is_text) x_l_is_text x_c_is_text x_k_is_text),
    (fun_mk (st := s_is_text) x_l_is_text x_c_is_text x_k_is_text).binds (ps := p_is_text) fun _ _ _ _ _ _ us hl => match us, hl with | [_, _], _ => rfl,
    PySem.W.mg_of X G x_a_is_text,
    f_is_length,
    _,
    (fun_mk (st := s_is_length) x_l_is_length x_c_is_length x_k_is_length),
    (fun_mk (st := s_is_length) x_l_is_length x_c_is_length x_k_is_length).binds (ps := p_is_length) fun _ _ _ _ _ _ us hl => match us, hl with | [_], _ => rfl,
    PySem.W.mg_of X G x_a_is_length,
    f_with_next,
    _,
    (fun_mk (st := s_with_next) x_l_with_next x_c_with_next x_k_with_next),
    (fun_mk (st := s_with_next) x_l_with_next x_c_with_next x_k_with_next).binds (ps := p_with_next) fun _ _ _ _ _ _ us hl => match us, hl with | [_, _], _ => rfl,
    PySem.W.mg_of X G x_a_with_next,
    f_check_number,
    _,
    (fun_mk (st := s_check_number) x_l_check_number x_c_check_number x_k_check_number),
    (fun_mk (st := s_check_number) x_l_check_number x_c_check_number x_k_check_number).binds (ps := p_check_number) fun _ _ _ _ _ _ us hl => match us, hl with | [_], _ => rfl,
    PySem.W.mg_of X G x_a_check_number,
    f_check_row,
    _,
    (fun_mk (st := s_check_row) x_l_check_row x_c_check_row x_k_check_row),
    (fun_mk (st := s_check_row) x_l_check_row x_c_check_row x_k_check_row).binds (ps := p_check_row) fun _ _ _ _ _ _ us hl => match us, hl with | [_], _ => rfl,
    PySem.W.mg_of X G x_a_check_row,
    f_cut_by,
    _,
    (fun_mk (st := s_cut_by) x_l_cut_by x_c_cut_by x_k_cut_by),
    (fun_mk (st := s_cut_by) x_l_cut_by x_c_cut_by x_k_cut_by).binds (ps := p_cut_by) fun _ _ _ _ _ _ us hl => match us, hl with | [_, _], _ => rfl,
    PySem.W.mg_of X G x_a_cut_by,
    f_plan_of,
    _,
    (fun_mk (st := s_plan_of) x_l_plan_of x_c_plan_of x_k_plan_of),
    (fun_mk (st := s_plan_of) x_l_plan_of x_c_plan_of x_k_plan_of).binds (ps := p_plan_of) fun _ _ _ _ _ _ us hl => match us, hl with | [_, _], _ => rfl,
    PySem.W.mg_of X G x_a_plan_of,
    f_parting_place,
    _,
    (fun_mk (st := s_parting_place) x_l_parting_place x_c_parting_place x_k_parting_place),
    (fun_mk (st := s_parting_place) x_l_parting_place x_c_parting_place x_k_parting_place).binds (ps := p_parting_place) fun _ _ _ _ _ _ us hl => match us, hl with | [_, _], _ => rfl,
    PySem.W.mg_of X G x_a_parting_place,
    f_parting_text,
    _,
    (fun_mk (st := s_parting_text) x_l_parting_text x_c_parting_text x_k_parting_text),
    (fun_mk (st := s_parting_text) x_l_parting_text x_c_parting_text x_k_parting_text).binds (ps := p_parting_text) fun _ _ _ _ _ _ us hl => match us, hl with | [_, _, _], _ => rfl,
    PySem.W.mg_of X G x_a_parting_text,
    f_first_unlike,
    _,
    (fun_mk (st := s_first_unlike) x_l_first_unlike x_c_first_unlike x_k_first_unlike),
    (fun_mk (st := s_first_unlike) x_l_first_unlike x_c_first_unlike x_k_first_unlike).binds (ps := p_first_unlike) fun _ _ _ _ _ _ us hl => match us, hl with | [_, _], _ => rfl,
    PySem.W.mg_of X G x_a_first_unlike,
    f_first_unstable,
    _,
    (fun_mk (st := s_first_unstable) x_l_first_unstable x_c_first_unstable x_k_first_unstable),
    (fun_mk (st := s_first_unstable) x_l_first_unstable x_c_first_unstable x_k_first_unstable).binds (ps := p_first_unstable) fun _ _ _ _ _ _ us hl => match us, hl with | [_], _ => rfl,
    PySem.W.mg_of X G x_a_first_unstable,
    f_known_signs,
    _,
    (fun_mk (st := s_known_signs) x_l_known_signs x_c_known_signs x_k_known_signs),
    (fun_mk (st := s_known_signs) x_l_known_signs x_c_known_signs x_k_known_signs).binds (ps := p_known_signs) fun _ _ _ _ _ _ us hl => match us, hl with | [_, _], _ => rfl,
    PySem.W.mg_of X G x_a_known_signs,
    f_shortener_in,
    _,
    (fun_mk (st := s_shortener_in) x_l_shortener_in x_c_shortener_in x_k_shortener_in),
    (fun_mk (st := s_shortener_in) x_l_shortener_in x_c_shortener_in x_k_shortener_in).binds (ps := p_shortener_in) fun _ _ _ _ _ _ us hl => match us, hl with | [_], _ => rfl,
    PySem.W.mg_of X G x_a_shortener_in,
    f_row_in,
    _,
    (fun_mk (st := s_row_in) x_l_row_in x_c_row_in x_k_row_in),
    (fun_mk (st := s_row_in) x_l_row_in x_c_row_in x_k_row_in).binds (ps := p_row_in) fun _ _ _ _ _ _ us hl => match us, hl with | [_], _ => rfl,
    PySem.W.mg_of X G x_a_row_in,
    f_shown_by,
    _,
    (fun_mk (st := s_shown_by) x_l_shown_by x_c_shown_by x_k_shown_by),
    (fun_mk (st := s_shown_by) x_l_shown_by x_c_shown_by x_k_shown_by).binds (ps := p_shown_by) fun _ _ _ _ _ _ us hl => match us, hl with | [_, _], _ => rfl,
    PySem.W.mg_of X G x_a_shown_by,
    f_is_nothing,
    _,
    (fun_mk (st := s_is_nothing) x_l_is_nothing x_c_is_nothing x_k_is_nothing),
    (fun_mk (st := s_is_nothing) x_l_is_nothing x_c_is_nothing x_k_is_nothing).binds (ps := p_is_nothing) fun _ _ _ _ _ _ us hl => match us, hl with | [_], _ => rfl,
    PySem.W.mg_of X G x_a_is_nothing,
    f_holds_of_two,
    _,
    (fun_mk (st := s_holds_of_two) x_l_holds_of_two x_c_holds_of_two x_k_holds_of_two),
    (fun_mk (st := s_holds_of_two) x_l_holds_of_two x_c_holds_of_two x_k_holds_of_two).binds (ps := p_holds_of_two) fun _ _ _ _ _ _ us hl => match us, hl with | [_, _, _], _ => rfl,
    PySem.W.mg_of X G x_a_holds_of_two,
    f_holds_of_one,
    _,
    (fun_mk (st := s_holds_of_one) x_l_holds_of_one x_c_holds_of_one x_k_holds_of_one),
    (fun_mk (st := s_holds_of_one) x_l_holds_of_one x_c_holds_of_one x_k_holds_of_one).binds (ps := p_holds_of_one) fun _ _ _ _ _ _ us hl => match us, hl with | [_, _, _], _ => rfl,
    PySem.W.mg_of X G x_a_holds_of_one,
    f_holds_of_shown,
    _,
    (fun_mk (st := s_holds_of_shown) x_l_holds_of_shown x_c_holds_of_shown x_k_holds_of_shown),
    (fun_mk (st := s_holds_of_shown) x_l_holds_of_shown x_c_holds_of_shown x_k_holds_of_shown).binds (ps := p_holds_of_shown) fun _ _ _ _ _ _ us hl => match us, hl with | [_, _, _], _ => rfl,
    PySem.W.mg_of X G x_a_holds_of_shown,
    f_holds_of_pair,
    _,
    (fun_mk (st := s_holds_of_pair) x_l_holds_of_pair x_c_holds_of_pair x_k_holds_of_pair),
    (fun_mk (st := s_holds_of_pair) x_l_holds_of_pair x_c_holds_of_pair x_k_holds_of_pair).binds (ps := p_holds_of_pair) fun _ _ _ _ _ _ us hl => match us, hl with | [_, _], _ => rfl,
    PySem.W.mg_of X G x_a_holds_of_pair,
    f_holds,
    _,
    (fun_mk (st := s_holds) x_l_holds x_c_holds x_k_holds),
    (fun_mk (st := s_holds) x_l_holds x_c_holds x_k_holds).binds (ps := p_holds) fun _ _ _ _ _ _ us hl => match us, hl with | [_, _], _ => rfl,
    PySem.W.mg_of X G x_a_holds,
    f__law_pot,
    _,
    (fun_mk (st := s__law_pot) x_l__law_pot x_c__law_pot x_k__law_pot),
    (fun_mk (st := s__law_pot) x_l__law_pot x_c__law_pot x_k__law_pot).binds (ps := p__law_pot) fun _ _ _ _ _ _ us hl => match us, hl with | [_, _], _ => rfl,
    PySem.W.mg_of X G x_a__law_pot,
    f__law_ladle,
    _,
    (fun_mk (st := s__law_ladle) x_l__law_ladle x_c__law_ladle x_k__law_ladle),
    (fun_mk (st := s__law_ladle) x_l__law_ladle x_c__law_ladle x_k__law_ladle).binds (ps := p__law_ladle) fun _ _ _ _ _ _ us hl => match us, hl with | [_, _], _ => rfl,
    PySem.W.mg_of X G x_a__law_ladle,
    f__law_one_of,
    _,
    (fun_mk (st := s__law_one_of) x_l__law_one_of x_c__law_one_of x_k__law_one_of),
    (fun_mk (st := s__law_one_of) x_l__law_one_of x_c__law_one_of x_k__law_one_of).binds (ps := p__law_one_of) fun _ _ _ _ _ _ us hl => match us, hl with | [_, _], _ => rfl,
    PySem.W.mg_of X G x_a__law_one_of,
    f__law_good,
    _,
    (fun_mk (st := s__law_good) x_l__law_good x_c__law_good x_k__law_good),
    (fun_mk (st := s__law_good) x_l__law_good x_c__law_good x_k__law_good).binds (ps := p__law_good) fun _ _ _ _ _ _ us hl => match us, hl with | [_], _ => rfl,
    PySem.W.mg_of X G x_a__law_good,
    f__law_odd,
    _,
    (fun_mk (st := s__law_odd) x_l__law_odd x_c__law_odd x_k__law_odd),
    (fun_mk (st := s__law_odd) x_l__law_odd x_c__law_odd x_k__law_odd).binds (ps := p__law_odd) fun _ _ _ _ _ _ us hl => match us, hl with | [_], _ => rfl,
    PySem.W.mg_of X G x_a__law_odd,
    f__law_bent,
    _,
    (fun_mk (st := s__law_bent) x_l__law_bent x_c__law_bent x_k__law_bent),
    (fun_mk (st := s__law_bent) x_l__law_bent x_c__law_bent x_k__law_bent).binds (ps := p__law_bent) fun _ _ _ _ _ _ us hl => match us, hl with | [_, _, _], _ => rfl,
    PySem.W.mg_of X G x_a__law_bent,
    f__law_right,
    _,
    (fun_mk (st := s__law_right) x_l__law_right x_c__law_right x_k__law_right),
    (fun_mk (st := s__law_right) x_l__law_right x_c__law_right x_k__law_right).binds (ps := p__law_right) fun _ _ _ _ _ _ us hl => match us, hl with | [_], _ => rfl,
    PySem.W.mg_of X G x_a__law_right,
    f_law,
    _,
    (fun_mk (st := s_law) x_l_law x_c_law x_k_law),
    (fun_mk (st := s_law) x_l_law x_c_law x_k_law).binds (ps := p_law) fun _ _ _ _ _ _ us hl => match us, hl with | [_], _ => rfl,
    PySem.W.mg_of X G x_a_law⟩, rfl⟩
end G
local macro_rules | `(tactic| walk_at "go") => `(tactic| simp (config := { failIfUnchanged := false, maxSteps := 2000000 }) only [U.e_var, U.e_c, U.e_op, U.e_un, U.e_nil, U.e_cons, U.e_cb, U.e_call, U.e_tup, U.e_lst, U.e_if, U.e_andV, U.e_orV, U.e_notV, U.e_chain, U.e_test, U.e_B, U.e_and, U.e_or, U.e_not, U.e_asg, U.e_name, U.e_seq, U.e_next, U.e_ret, U.e_ifS, U.e_drop, U.e_part, U.e_noPart, U.e_sl, U.e_I0, U.e_I, U.e_exbl, U.e_exint, U.e_exstr, U.e_exsome, U.e_pair, U.e_expair, U.e_m1, U.e_m0, U.e_bm, U.e_bm0, U.e_fld, U.e_sfld, U.e_then, U.e_star, U.e_yes, U.e_gcons, U.e_gnil, U.e_gtup, U.e_gsub, U.e_make, U.e_makeK, U.e_callN, U.e_meth, U.e_kTup, U.e_lcL, U.e_lcT, U.e_lcS, U.e_lcR, U.e_lcR2, U.e_forL, U.e_forT, U.e_forR, U.e_forR2, U.e_forE, U.e_lstRg, L2.wipe, eq_self,
  U.rAddU, U.rEqU, U.rNeU, U.rLtU, U.rInU, U.rNinU, U.rIxU, U.rSlU, U.rLenU, U.rInt1, U.rI1, U.rI2, L2.rU, U.rListU, L2.scal,
  L2.start, List.map_cons, List.map_nil, List.length_cons, List.length_nil, List.cons_append, List.nil_append, List.append_nil, List.getElem?_cons_zero, List.getElem?_cons_succ, List.set_cons_zero, List.set_cons_succ, Nat.reduceAdd, Nat.reduceSub, List.reduceReplicate, Nat.zero_add,
  if_true, if_false, Bool.false_eq_true, decide_eq_true_eq, Bool.not_eq_true', decide_eq_false_iff_not, Bool.not_true, Bool.not_false, L2.V.int.injEq, L2.V.str.injEq, L2.V.bl.injEq, L2.V.ref.injEq, exists_eq_left', exists_and_left, true_and, and_true, not_true_eq_false, not_false_eq_true, reduceCtorEq])
local macro_rules | `(tactic| walk_at "lz") => `(tactic| simp (config := { failIfUnchanged := false, maxSteps := 2000000 }) only [U.e_var, U.e_c, U.e_op, U.e_un, U.e_nil, U.e_cons, U.e_cb, U.e_call, U.e_tup, U.e_lst, U.e_if, U.e_andV, U.e_orV, U.e_notV, U.e_chain, U.e_test, U.e_B, U.e_and, U.e_or, U.e_not, U.e_asg, U.e_name, U.e_seq, U.e_next, U.e_ret, U.e_ifS, U.e_drop, U.e_part, U.e_noPart, U.e_sl, U.e_I0, U.e_I, U.e_exbl, U.e_exint, U.e_exstr, U.e_exsome, U.e_pair, U.e_expair, U.e_m1, U.e_m0, U.e_bm, U.e_bm0, U.e_fld, U.e_sfld, U.e_then, U.e_star, U.e_yes, U.e_gcons, U.e_gnil, U.e_gtup, U.e_gsub, U.e_make, U.e_makeK, U.e_callN, U.e_meth, U.e_kTup, U.e_lcL, U.e_lcT, U.e_lcS, U.e_lcR, U.e_lcR2, U.e_forL, U.e_forT, U.e_forR, U.e_forR2, U.e_forE, U.e_lstRg, L2.wipe, eq_self,
  U.rEqU, U.rNeU, U.rLtU, U.rInU, U.rNinU, U.rIxU, U.rSlU, U.rLenU, U.rInt1, U.rI1, U.rI2, L2.rU, U.rListU, L2.scal,
  L2.start, List.map_cons, List.map_nil, List.length_cons, List.length_nil, List.cons_append, List.nil_append, List.append_nil, List.getElem?_cons_zero, List.getElem?_cons_succ, List.set_cons_zero, List.set_cons_succ, Nat.reduceAdd, Nat.reduceSub, List.reduceReplicate, Nat.zero_add,
  if_true, if_false, Bool.false_eq_true, decide_eq_true_eq, Bool.not_eq_true', decide_eq_false_iff_not, Bool.not_true, Bool.not_false, L2.V.int.injEq, L2.V.str.injEq, L2.V.bl.injEq, L2.V.ref.injEq, exists_eq_left', exists_and_left, true_and, and_true, not_true_eq_false, not_false_eq_true, reduceCtorEq])
local macro_rules | `(tactic| walk_at "lx") => `(tactic| simp (config := { failIfUnchanged := false, maxSteps := 2000000 }) only [U.e_var, U.e_c, U.e_op, U.e_un, U.e_nil, U.e_cons, U.e_cb, U.e_call, U.e_tup, U.e_lst, U.e_if, U.e_andV, U.e_orV, U.e_notV, U.e_chain, U.e_test, U.e_B, U.e_and, U.e_or, U.e_not, U.e_asg, U.e_name, U.e_seq, U.e_next, U.e_ret, U.e_ifS, U.e_drop, U.e_part, U.e_noPart, U.e_sl, U.e_I0, U.e_I, U.e_exbl, U.e_exint, U.e_exstr, U.e_exsome, U.e_pair, U.e_expair, U.e_m1, U.e_m0, U.e_bm, U.e_bm0, U.e_fld, U.e_sfld, U.e_then, U.e_star, U.e_yes, U.e_gcons, U.e_gnil, U.e_gtup, U.e_gsub, U.e_make, U.e_makeK, U.e_callN, U.e_meth, U.e_kTup, U.e_lcL, U.e_lcT, U.e_lcS, U.e_lcR, U.e_lcR2, U.e_forL, U.e_forT, U.e_forR, U.e_forR2, U.e_forE, U.e_lstRg, L2.wipe, eq_self,
  U.rLtU, U.rInU, U.rNinU, U.rSlU, U.rLenU, U.rInt1, U.rI1, U.rI2, L2.rU, U.rListU, L2.scal,
  L2.start, List.map_cons, List.map_nil, List.length_cons, List.length_nil, List.cons_append, List.nil_append, List.append_nil, List.getElem?_cons_zero, List.getElem?_cons_succ, List.set_cons_zero, List.set_cons_succ, Nat.reduceAdd, Nat.reduceSub, List.reduceReplicate, Nat.zero_add,
  if_true, if_false, Bool.false_eq_true, decide_eq_true_eq, Bool.not_eq_true', decide_eq_false_iff_not, Bool.not_true, Bool.not_false, L2.V.int.injEq, L2.V.str.injEq, L2.V.bl.injEq, L2.V.ref.injEq, exists_eq_left', exists_and_left, true_and, and_true, not_true_eq_false, not_false_eq_true, reduceCtorEq])
local macro_rules | `(tactic| walk_at "ly") => `(tactic| simp (config := { failIfUnchanged := false, maxSteps := 2000000 }) only [U.e_var, U.e_c, U.e_op, U.e_un, U.e_nil, U.e_cons, U.e_cb, U.e_call, U.e_tup, U.e_lst, U.e_if, U.e_andV, U.e_orV, U.e_notV, U.e_chain, U.e_test, U.e_B, U.e_and, U.e_or, U.e_not, U.e_asg, U.e_name, U.e_seq, U.e_next, U.e_ret, U.e_ifS, U.e_drop, U.e_part, U.e_noPart, U.e_sl, U.e_I0, U.e_I, U.e_exbl, U.e_exint, U.e_exstr, U.e_exsome, U.e_pair, U.e_expair, U.e_m1, U.e_m0, U.e_bm, U.e_bm0, U.e_fld, U.e_sfld, U.e_then, U.e_star, U.e_yes, U.e_gcons, U.e_gnil, U.e_gtup, U.e_gsub, U.e_make, U.e_makeK, U.e_callN, U.e_meth, U.e_kTup, U.e_lcL, U.e_lcT, U.e_lcS, U.e_lcR, U.e_lcR2, U.e_forL, U.e_forT, U.e_forR, U.e_forR2, U.e_forE, U.e_lstRg, L2.wipe, eq_self,
  U.rSlU, U.rInt1, U.rI1, U.rI2, L2.rU, U.rListU, L2.scal,
  L2.start, List.map_cons, List.map_nil, List.length_cons, List.length_nil, List.cons_append, List.nil_append, List.append_nil, List.getElem?_cons_zero, List.getElem?_cons_succ, List.set_cons_zero, List.set_cons_succ, Nat.reduceAdd, Nat.reduceSub, List.reduceReplicate, Nat.zero_add,
  if_true, if_false, Bool.false_eq_true, decide_eq_true_eq, Bool.not_eq_true', decide_eq_false_iff_not, Bool.not_true, Bool.not_false, L2.V.int.injEq, L2.V.str.injEq, L2.V.bl.injEq, L2.V.ref.injEq, exists_eq_left', exists_and_left, true_and, and_true, not_true_eq_false, not_false_eq_true, reduceCtorEq])
local macro_rules | `(tactic| walk_at "lw") => `(tactic| simp (config := { failIfUnchanged := false, maxSteps := 2000000 }) only [U.e_var, U.e_c, U.e_op, U.e_un, U.e_nil, U.e_cons, U.e_cb, U.e_call, U.e_tup, U.e_lst, U.e_if, U.e_andV, U.e_orV, U.e_notV, U.e_chain, U.e_test, U.e_B, U.e_and, U.e_or, U.e_not, U.e_asg, U.e_name, U.e_seq, U.e_next, U.e_ret, U.e_ifS, U.e_drop, U.e_part, U.e_noPart, U.e_sl, U.e_I0, U.e_I, U.e_exbl, U.e_exint, U.e_exstr, U.e_exsome, U.e_pair, U.e_expair, U.e_m1, U.e_m0, U.e_bm, U.e_bm0, U.e_fld, U.e_sfld, U.e_then, U.e_star, U.e_yes, U.e_gcons, U.e_gnil, U.e_gtup, U.e_gsub, U.e_make, U.e_makeK, U.e_callN, U.e_meth, U.e_lcL, U.e_lcT, U.e_lcS, U.e_lcR, U.e_lcR2, U.e_forL, U.e_forT, U.e_forR, U.e_forR2, U.e_forE, U.e_lstRg, L2.wipe, eq_self,
  U.rInt1, U.rI1, U.rI2, L2.rU, U.rListU, L2.scal,
  L2.start, List.map_cons, List.map_nil, List.length_cons, List.length_nil, List.cons_append, List.nil_append, List.append_nil, List.getElem?_cons_zero, List.getElem?_cons_succ, List.set_cons_zero, List.set_cons_succ, Nat.reduceAdd, Nat.reduceSub, List.reduceReplicate, Nat.zero_add,
  if_true, if_false, Bool.false_eq_true, decide_eq_true_eq, Bool.not_eq_true', decide_eq_false_iff_not, Bool.not_true, Bool.not_false, L2.V.int.injEq, L2.V.str.injEq, L2.V.bl.injEq, L2.V.ref.injEq, exists_eq_left', exists_and_left, true_and, and_true, not_true_eq_false, not_false_eq_true, reduceCtorEq])
local macro_rules | `(tactic| walk_at "vmem") => `(tactic| (first | assumption | exact V.mset_same | exact V.mset_get2 (by assumption) | exact (V.mset_ne (by assumption)).trans (by assumption) | exact (V.mset_ne (by assumption)).trans V.mset_same | exact (V.mset_ne (by assumption)).trans ((V.mset_ne (by assumption)).trans (by assumption))))
local macro_rules | `(tactic| walk_at "vset") => `(tactic| (first | exact V.mset_set | exact V.mset_set2 (by assumption) | exact rfl))
local macro_rules | `(tactic| walk_at "dw") => `(tactic| (repeat (first | (with_reducible (first | refine V.x_seq ?_ | refine V.x_op ?_ | refine V.x_cons ?_ | refine V.x_nil ?_ | refine V.x_c ?_ | refine V.x_tup ?_ | refine V.x_lst ?_ | refine V.x_lstM ?_ | refine V.x_if ?_ | refine V.x_B ?_ | refine V.x_and ?_ | refine V.x_or ?_ | refine V.x_not ?_ | refine V.x_andV ?_ | refine V.x_orV ?_ | refine V.x_notV ?_ | refine V.x_chain ?_ | refine V.x_cb ?_ | refine V.x_then ?_ | refine V.x_star ?_ | refine V.x_part ?_ | refine V.x_noPart ?_ | refine V.x_sl ?_ | refine V.x_fld ?_ | refine V.x_sfld ?_ | refine V.x_neg ?_ | refine V.x_join ?_ | refine V.x_append ?_ | refine V.x_lstRg ?_ | refine V.x_rg1 ?_ | refine V.x_rg2 ?_ | refine V.x_revL ?_ | refine V.x_joinF ?_ | refine V.x_call ?_ | refine V.x_callN ?_ | refine V.x_meth ?_ | refine V.x_makeK ?_ | refine V.x_lc ?_ | refine V.x_yes ?_ | refine V.x_next ?_ | refine V.x_break ?_ | refine V.x_cont ?_ | refine V.x_drop ?_ | refine V.x_ret ?_ | refine V.x_retN ?_ | refine V.x_ifS ?_ | refine V.x_asg ?_ | refine V.x_gN ?_ | refine V.x_par ?_ | refine V.x_for ?_ | refine V.x_gs1 ?_ | refine V.x_gs0 ?_ | refine V.x_iL ?_ | refine V.x_iT ?_ | refine V.x_iS ?_ | refine V.x_iR1 ?_ | refine V.x_iR2 ?_ | refine V.x_diL ?_ | refine V.x_bl ?_ | refine V.x_int ?_ | refine V.x_int2 ?_ | refine V.x_str0 ?_ | refine V.x_two ?_ | refine V.x_tr ?_ | refine V.x_addI ?_ | refine V.x_I1 ?_ | refine V.x_ltI ?_ | refine V.x_eqI ?_ | refine V.x_eqS ?_ | refine V.x_neI ?_ | refine V.x_neS ?_ | refine V.x_isN ?_ | refine V.x_notN ?_ | refine V.x_isB ?_ | refine V.x_notB ?_ | refine V.x_lenT ?_ | refine V.x_lenL ?_ | refine V.x_listL ?_ | refine V.x_listT ?_ | refine V.x_tupL ?_ | refine V.x_tupT ?_ | refine V.x_int1 ?_ | refine V.x_int21 ?_ | refine V.x_slT ?_ | refine V.x_slL ?_ | refine V.x_all ?_ | refine V.x_tfE ?_ | refine V.x_tfF ?_ | refine V.x_tupE ?_ | refine V.x_strE ?_ | refine V.x_r1 ?_ | refine V.x_r2 ?_ | refine V.x_true ?_ | refine V.x_false ?_ | refine V.x_nfalse ?_ | refine V.x_ntrue ?_ | refine V.x_iET ?_ | refine V.x_iE ?_ | refine V.x_iZ ?_ | refine V.x_tf1 ?_ | refine V.x_tf1F ?_ | refine V.x_tup1 ?_ | refine V.x_lst1 ?_ | refine V.x_lst2 ?_ | refine V.x_starT ?_ | refine V.x_starF ?_ | refine V.x_starL ?_ | refine V.x_eqIN ?_ | refine V.x_eqNI ?_ | refine V.x_eqSN ?_ | refine V.x_eqNS ?_ | refine V.x_eqNN ?_ | refine V.x_eqBB ?_ | refine V.x_neIN ?_ | refine V.x_neNI ?_ | refine V.x_neSN ?_ | refine V.x_neNS ?_ | refine V.x_neNN ?_ | refine V.x_neBB ?_ | refine V.x_iZT ?_ | refine V.x_tup2 ?_ | refine V.x_par3 ?_ | refine V.x_three ?_ | refine V.x_tupF ?_ | refine V.x_tfL ?_ | refine V.x_lstRgM ?_ | refine V.x_callX ?_ | refine V.x_callNX ?_ | refine V.x_raiseX ?_ | refine V.x_dnewE ?_)) | ((with_reducible refine' V.x_var ?_ ?_); rotate_left; exact rfl) | ((with_reducible refine' V.x_aug ?_ ?_); rotate_left; exact rfl) | ((with_reducible refine' V.x_lamE ?_ ?_); assumption) | ((with_reducible refine' V.x_gT ?_ ?_); exact rfl) | ((with_reducible refine' And.intro (a := _ ≤ PySem.sizeLine) ?_ ?_); exact Nat.le_of_ble_eq_true rfl) | ((with_reducible refine' V.x_ixT ?_ ?_); rotate_left; exact rfl) | ((with_reducible refine' V.x_ixL ?_ ?_); rotate_left; exact rfl) | ((with_reducible refine' V.x_iteT ?_ ?_); (first | omega | (simp only [List.length_cons, List.length_nil, List.length_map, List.length_append]; omega))) | ((with_reducible refine' V.x_iteF ?_ ?_); (first | omega | (simp only [List.length_cons, List.length_nil, List.length_map, List.length_append]; omega))) | ((with_reducible refine' V.x_itenT ?_ ?_); (first | omega | (simp only [List.length_cons, List.length_nil, List.length_map, List.length_append]; omega))) | ((with_reducible refine' V.x_itenF ?_ ?_); (first | omega | (simp only [List.length_cons, List.length_nil, List.length_map, List.length_append]; omega))) | ((with_reducible refine' V.x_sfldQ ?_ ?_ ?_ ?_); assumption; assumption; exact Nat.le_of_ble_eq_true rfl) | ((with_reducible refine' V.x_sfldP ?_ ?_ ?_ ?_ ?_); rotate_left 2; assumption; assumption; assumption; exact Nat.le_of_ble_eq_true rfl) | ((with_reducible refine' V.x_fldI 0 ?_ ?_ ?_ ?_ ?_ ?_); rotate_left; exact rfl; exact rfl; assumption; assumption; decide +kernel) | ((with_reducible refine' V.x_fldI 1 ?_ ?_ ?_ ?_ ?_ ?_); rotate_left; exact rfl; exact rfl; assumption; assumption; decide +kernel) | ((with_reducible refine' V.x_fldI 2 ?_ ?_ ?_ ?_ ?_ ?_); rotate_left; exact rfl; exact rfl; assumption; assumption; decide +kernel) | ((with_reducible refine' V.x_fldI 3 ?_ ?_ ?_ ?_ ?_ ?_); rotate_left; exact rfl; exact rfl; assumption; assumption; decide +kernel) | ((with_reducible refine' V.x_fldI 4 ?_ ?_ ?_ ?_ ?_ ?_); rotate_left; exact rfl; exact rfl; assumption; assumption; decide +kernel) | ((with_reducible refine' V.x_fldI 5 ?_ ?_ ?_ ?_ ?_ ?_); rotate_left; exact rfl; exact rfl; assumption; assumption; decide +kernel) | ((with_reducible refine' V.x_fldI 6 ?_ ?_ ?_ ?_ ?_ ?_); rotate_left; exact rfl; exact rfl; assumption; assumption; decide +kernel) | ((with_reducible refine' V.x_fldQ 0 ?_ ?_ ?_ ?_ ?_ ?_ ?_); rotate_left 3; assumption; exact rfl; exact rfl; assumption; assumption; (first | decide +kernel | (simp only [List.map_cons, List.map_nil]; decide +kernel))) | ((with_reducible refine' V.x_fldQ 1 ?_ ?_ ?_ ?_ ?_ ?_ ?_); rotate_left 3; assumption; exact rfl; exact rfl; assumption; assumption; (first | decide +kernel | (simp only [List.map_cons, List.map_nil]; decide +kernel))) | ((with_reducible refine' V.x_fldQ 2 ?_ ?_ ?_ ?_ ?_ ?_ ?_); rotate_left 3; assumption; exact rfl; exact rfl; assumption; assumption; (first | decide +kernel | (simp only [List.map_cons, List.map_nil]; decide +kernel))) | ((with_reducible refine' V.x_fldQ 3 ?_ ?_ ?_ ?_ ?_ ?_ ?_); rotate_left 3; assumption; exact rfl; exact rfl; assumption; assumption; (first | decide +kernel | (simp only [List.map_cons, List.map_nil]; decide +kernel))) | ((with_reducible refine' V.x_fldQ 4 ?_ ?_ ?_ ?_ ?_ ?_ ?_); rotate_left 3; assumption; exact rfl; exact rfl; assumption; assumption; (first | decide +kernel | (simp only [List.map_cons, List.map_nil]; decide +kernel))) | ((with_reducible refine' V.x_fldQ 5 ?_ ?_ ?_ ?_ ?_ ?_ ?_); rotate_left 3; assumption; exact rfl; exact rfl; assumption; assumption; (first | decide +kernel | (simp only [List.map_cons, List.map_nil]; decide +kernel))) | ((with_reducible refine' V.x_fldQ 6 ?_ ?_ ?_ ?_ ?_ ?_ ?_); rotate_left 3; assumption; exact rfl; exact rfl; assumption; assumption; (first | decide +kernel | (simp only [List.map_cons, List.map_nil]; decide +kernel))))))
local macro_rules | `(tactic| walk_at "dy") => `(tactic| (repeat (first | (with_reducible (first | refine V.x_seq ?_ | refine V.x_op ?_ | refine V.x_cons ?_ | refine V.x_nil ?_ | refine V.x_c ?_ | refine V.x_tup ?_ | refine V.x_lst ?_ | refine V.x_lstM ?_ | refine V.x_if ?_ | refine V.x_B ?_ | refine V.x_and ?_ | refine V.x_or ?_ | refine V.x_not ?_ | refine V.x_andV ?_ | refine V.x_orV ?_ | refine V.x_notV ?_ | refine V.x_chain ?_ | refine V.x_cb ?_ | refine V.x_then ?_ | refine V.x_star ?_ | refine V.x_part ?_ | refine V.x_noPart ?_ | refine V.x_sl ?_ | refine V.x_fld ?_ | refine V.x_sfld ?_ | refine V.x_neg ?_ | refine V.x_join ?_ | refine V.x_append ?_ | refine V.x_lstRg ?_ | refine V.x_rg1 ?_ | refine V.x_rg2 ?_ | refine V.x_revL ?_ | refine V.x_joinF ?_ | refine V.x_call ?_ | refine V.x_callN ?_ | refine V.x_meth ?_ | refine V.x_makeK ?_ | refine V.x_lc ?_ | refine V.x_yes ?_ | refine V.x_next ?_ | refine V.x_break ?_ | refine V.x_cont ?_ | refine V.x_drop ?_ | refine V.x_ret ?_ | refine V.x_retN ?_ | refine V.x_ifS ?_ | refine V.x_asg ?_ | refine V.x_for ?_ | refine V.x_gs1 ?_ | refine V.x_gs0 ?_ | refine V.x_iL ?_ | refine V.x_iT ?_ | refine V.x_iS ?_ | refine V.x_iR1 ?_ | refine V.x_iR2 ?_ | refine V.x_diL ?_ | refine V.x_bl ?_ | refine V.x_int ?_ | refine V.x_int2 ?_ | refine V.x_str0 ?_ | refine V.x_two ?_ | refine V.x_tr ?_ | refine V.x_addI ?_ | refine V.x_I1 ?_ | refine V.x_ltI ?_ | refine V.x_eqI ?_ | refine V.x_eqS ?_ | refine V.x_neI ?_ | refine V.x_neS ?_ | refine V.x_isN ?_ | refine V.x_notN ?_ | refine V.x_isB ?_ | refine V.x_notB ?_ | refine V.x_lenT ?_ | refine V.x_lenL ?_ | refine V.x_listL ?_ | refine V.x_listT ?_ | refine V.x_tupL ?_ | refine V.x_tupT ?_ | refine V.x_int1 ?_ | refine V.x_int21 ?_ | refine V.x_slT ?_ | refine V.x_slL ?_ | refine V.x_all ?_ | refine V.x_tfE ?_ | refine V.x_tfF ?_ | refine V.x_tupE ?_ | refine V.x_strE ?_ | refine V.x_r1 ?_ | refine V.x_r2 ?_ | refine V.x_true ?_ | refine V.x_false ?_ | refine V.x_nfalse ?_ | refine V.x_ntrue ?_ | refine V.x_iET ?_ | refine V.x_iE ?_ | refine V.x_iZ ?_ | refine V.x_tf1 ?_ | refine V.x_tf1F ?_ | refine V.x_tup1 ?_ | refine V.x_lst1 ?_ | refine V.x_lst2 ?_ | refine V.x_starT ?_ | refine V.x_starF ?_ | refine V.x_starL ?_ | refine V.x_eqIN ?_ | refine V.x_eqNI ?_ | refine V.x_eqSN ?_ | refine V.x_eqNS ?_ | refine V.x_eqNN ?_ | refine V.x_eqBB ?_ | refine V.x_neIN ?_ | refine V.x_neNI ?_ | refine V.x_neSN ?_ | refine V.x_neNS ?_ | refine V.x_neNN ?_ | refine V.x_neBB ?_ | refine V.x_iZT ?_ | refine V.x_tup2 ?_ | refine V.x_three ?_ | refine V.x_tupF ?_ | refine V.x_tfL ?_ | refine V.x_lstRgM ?_ | refine V.x_callX ?_ | refine V.x_callNX ?_ | refine V.x_raiseX ?_ | refine V.x_dnewE ?_)) | ((with_reducible refine V.x_gN ?_); (try dsimp only [List.set_cons_zero, List.set_cons_succ])) | ((with_reducible refine V.x_par ?_); (try dsimp only [List.set_cons_zero, List.set_cons_succ])) | ((with_reducible refine V.x_par3 ?_); (try dsimp only [List.set_cons_zero, List.set_cons_succ])) | ((with_reducible refine' V.x_var ?_ ?_); rotate_left; exact rfl) | ((with_reducible refine' V.x_aug ?_ ?_); rotate_left; exact rfl; (try dsimp only [List.set_cons_zero, List.set_cons_succ])) | ((with_reducible refine' V.x_lamE ?_ ?_); assumption) | ((with_reducible refine' V.x_gT ?_ ?_); exact rfl) | ((with_reducible refine' And.intro (a := _ ≤ PySem.sizeLine) ?_ ?_); exact Nat.le_of_ble_eq_true rfl) | ((with_reducible refine' V.x_ixT ?_ ?_); rotate_left; exact rfl) | ((with_reducible refine' V.x_ixL ?_ ?_); rotate_left; exact rfl) | ((with_reducible refine' V.x_iteT ?_ ?_); (first | omega | (simp only [List.length_cons, List.length_nil, List.length_map, List.length_append]; omega))) | ((with_reducible refine' V.x_iteF ?_ ?_); (first | omega | (simp only [List.length_cons, List.length_nil, List.length_map, List.length_append]; omega))) | ((with_reducible refine' V.x_itenT ?_ ?_); (first | omega | (simp only [List.length_cons, List.length_nil, List.length_map, List.length_append]; omega))) | ((with_reducible refine' V.x_itenF ?_ ?_); (first | omega | (simp only [List.length_cons, List.length_nil, List.length_map, List.length_append]; omega))) | ((with_reducible refine' V.x_sfldQ ?_ ?_ ?_ ?_); assumption; assumption; exact Nat.le_of_ble_eq_true rfl) | ((with_reducible refine' V.x_sfldP ?_ ?_ ?_ ?_ ?_); rotate_left 2; assumption; assumption; assumption; exact Nat.le_of_ble_eq_true rfl) | ((with_reducible refine' V.x_fldI 0 ?_ ?_ ?_ ?_ ?_ ?_); rotate_left; exact rfl; exact rfl; assumption; assumption; decide +kernel) | ((with_reducible refine' V.x_fldI 1 ?_ ?_ ?_ ?_ ?_ ?_); rotate_left; exact rfl; exact rfl; assumption; assumption; decide +kernel) | ((with_reducible refine' V.x_fldI 2 ?_ ?_ ?_ ?_ ?_ ?_); rotate_left; exact rfl; exact rfl; assumption; assumption; decide +kernel) | ((with_reducible refine' V.x_fldI 3 ?_ ?_ ?_ ?_ ?_ ?_); rotate_left; exact rfl; exact rfl; assumption; assumption; decide +kernel) | ((with_reducible refine' V.x_fldI 4 ?_ ?_ ?_ ?_ ?_ ?_); rotate_left; exact rfl; exact rfl; assumption; assumption; decide +kernel) | ((with_reducible refine' V.x_fldI 5 ?_ ?_ ?_ ?_ ?_ ?_); rotate_left; exact rfl; exact rfl; assumption; assumption; decide +kernel) | ((with_reducible refine' V.x_fldI 6 ?_ ?_ ?_ ?_ ?_ ?_); rotate_left; exact rfl; exact rfl; assumption; assumption; decide +kernel) | ((with_reducible refine' V.x_fldQ 0 ?_ ?_ ?_ ?_ ?_ ?_ ?_); rotate_left 3; assumption; exact rfl; exact rfl; assumption; assumption; (first | decide +kernel | (simp only [List.map_cons, List.map_nil]; decide +kernel))) | ((with_reducible refine' V.x_fldQ 1 ?_ ?_ ?_ ?_ ?_ ?_ ?_); rotate_left 3; assumption; exact rfl; exact rfl; assumption; assumption; (first | decide +kernel | (simp only [List.map_cons, List.map_nil]; decide +kernel))) | ((with_reducible refine' V.x_fldQ 2 ?_ ?_ ?_ ?_ ?_ ?_ ?_); rotate_left 3; assumption; exact rfl; exact rfl; assumption; assumption; (first | decide +kernel | (simp only [List.map_cons, List.map_nil]; decide +kernel))) | ((with_reducible refine' V.x_fldQ 3 ?_ ?_ ?_ ?_ ?_ ?_ ?_); rotate_left 3; assumption; exact rfl; exact rfl; assumption; assumption; (first | decide +kernel | (simp only [List.map_cons, List.map_nil]; decide +kernel))) | ((with_reducible refine' V.x_fldQ 4 ?_ ?_ ?_ ?_ ?_ ?_ ?_); rotate_left 3; assumption; exact rfl; exact rfl; assumption; assumption; (first | decide +kernel | (simp only [List.map_cons, List.map_nil]; decide +kernel))) | ((with_reducible refine' V.x_fldQ 5 ?_ ?_ ?_ ?_ ?_ ?_ ?_); rotate_left 3; assumption; exact rfl; exact rfl; assumption; assumption; (first | decide +kernel | (simp only [List.map_cons, List.map_nil]; decide +kernel))) | ((with_reducible refine' V.x_fldQ 6 ?_ ?_ ?_ ?_ ?_ ?_ ?_); rotate_left 3; assumption; exact rfl; exact rfl; assumption; assumption; (first | decide +kernel | (simp only [List.map_cons, List.map_nil]; decide +kernel))) | (with_reducible (first | refine V.x_opX ?_ | refine V.x_split ?_)) | ((with_reducible apply V.x_callLX); exact rfl; (with_reducible exact rfl)) | ((with_reducible apply V.x_callLN); exact rfl; (with_reducible exact rfl)) | ((with_reducible refine' V.x_orL ?_); (with_reducible apply V.x_callLX); exact rfl; (with_reducible exact rfl)) | ((with_reducible refine' V.x_orL ?_); (with_reducible apply V.x_callLN); exact rfl; (with_reducible exact rfl)) | (with_reducible refine' V.x_orR ?_) | ((with_reducible apply V.x_ap1); walk_at "vmem") | ((with_reducible apply V.x_ap2); walk_at "vmem"; (simp [V.sizeLineN]); (first | rw [V.mset_set] | rw [V.mset_set2 (by assumption)] | skip)))))
local macro_rules | `(tactic| walk_at "dx") => `(tactic| (repeat (first | (with_reducible (first | refine V.x_seq ?_ | refine V.x_op ?_ | refine V.x_cons ?_ | refine V.x_nil ?_ | refine V.x_c ?_ | refine V.x_tup ?_ | refine V.x_lst ?_ | refine V.x_lstM ?_ | refine V.x_if ?_ | refine V.x_B ?_ | refine V.x_and ?_ | refine V.x_or ?_ | refine V.x_not ?_ | refine V.x_andV ?_ | refine V.x_orV ?_ | refine V.x_notV ?_ | refine V.x_chain ?_ | refine V.x_cb ?_ | refine V.x_then ?_ | refine V.x_star ?_ | refine V.x_part ?_ | refine V.x_noPart ?_ | refine V.x_sl ?_ | refine V.x_fld ?_ | refine V.x_sfld ?_ | refine V.x_neg ?_ | refine V.x_join ?_ | refine V.x_append ?_ | refine V.x_lstRg ?_ | refine V.x_rg1 ?_ | refine V.x_rg2 ?_ | refine V.x_revL ?_ | refine V.x_joinF ?_ | refine V.x_call ?_ | refine V.x_callN ?_ | refine V.x_meth ?_ | refine V.x_makeK ?_ | refine V.x_lc ?_ | refine V.x_yes ?_ | refine V.x_next ?_ | refine V.x_break ?_ | refine V.x_cont ?_ | refine V.x_drop ?_ | refine V.x_ret ?_ | refine V.x_retN ?_ | refine V.x_ifS ?_ | refine V.x_asg ?_ | refine V.x_for ?_ | refine V.x_gs1 ?_ | refine V.x_gs0 ?_ | refine V.x_iL ?_ | refine V.x_iT ?_ | refine V.x_iS ?_ | refine V.x_iR1 ?_ | refine V.x_iR2 ?_ | refine V.x_diL ?_ | refine V.x_bl ?_ | refine V.x_int ?_ | refine V.x_int2 ?_ | refine V.x_str0 ?_ | refine V.x_two ?_ | refine V.x_tr ?_ | refine V.x_addI ?_ | refine V.x_I1 ?_ | refine V.x_ltI ?_ | refine V.x_eqI ?_ | refine V.x_eqS ?_ | refine V.x_neI ?_ | refine V.x_neS ?_ | refine V.x_isN ?_ | refine V.x_notN ?_ | refine V.x_isB ?_ | refine V.x_notB ?_ | refine V.x_lenT ?_ | refine V.x_lenL ?_ | refine V.x_listL ?_ | refine V.x_listT ?_ | refine V.x_tupL ?_ | refine V.x_tupT ?_ | refine V.x_int1 ?_ | refine V.x_int21 ?_ | refine V.x_slT ?_ | refine V.x_slL ?_ | refine V.x_all ?_ | refine V.x_tfE ?_ | refine V.x_tfF ?_ | refine V.x_tupE ?_ | refine V.x_strE ?_ | refine V.x_r1 ?_ | refine V.x_r2 ?_ | refine V.x_true ?_ | refine V.x_false ?_ | refine V.x_nfalse ?_ | refine V.x_ntrue ?_ | refine V.x_iET ?_ | refine V.x_iE ?_ | refine V.x_iZ ?_ | refine V.x_tf1 ?_ | refine V.x_tf1F ?_ | refine V.x_tup1 ?_ | refine V.x_lst1 ?_ | refine V.x_lst2 ?_ | refine V.x_starT ?_ | refine V.x_starF ?_ | refine V.x_starL ?_ | refine V.x_eqIN ?_ | refine V.x_eqNI ?_ | refine V.x_eqSN ?_ | refine V.x_eqNS ?_ | refine V.x_eqNN ?_ | refine V.x_eqBB ?_ | refine V.x_neIN ?_ | refine V.x_neNI ?_ | refine V.x_neSN ?_ | refine V.x_neNS ?_ | refine V.x_neNN ?_ | refine V.x_neBB ?_ | refine V.x_iZT ?_ | refine V.x_tup2 ?_ | refine V.x_three ?_ | refine V.x_tupF ?_ | refine V.x_tfL ?_ | refine V.x_lstRgM ?_ | refine V.x_callX ?_ | refine V.x_callNX ?_ | refine V.x_raiseX ?_ | refine V.x_dnewE ?_)) | ((with_reducible refine V.x_gN ?_); (try dsimp only [List.set_cons_zero, List.set_cons_succ])) | ((with_reducible refine V.x_par ?_); (try dsimp only [List.set_cons_zero, List.set_cons_succ])) | ((with_reducible refine V.x_par3 ?_); (try dsimp only [List.set_cons_zero, List.set_cons_succ])) | ((with_reducible refine' V.x_var ?_ ?_); rotate_left; exact rfl) | ((with_reducible refine' V.x_aug ?_ ?_); rotate_left; exact rfl; (try dsimp only [List.set_cons_zero, List.set_cons_succ])) | ((with_reducible refine' V.x_lamE ?_ ?_); assumption) | ((with_reducible refine' V.x_gT ?_ ?_); exact rfl) | ((with_reducible refine' And.intro (a := _ ≤ PySem.sizeLine) ?_ ?_); exact Nat.le_of_ble_eq_true rfl) | ((with_reducible refine' V.x_ixT ?_ ?_); rotate_left; exact rfl) | ((with_reducible refine' V.x_ixL ?_ ?_); rotate_left; exact rfl) | ((with_reducible refine' V.x_iteT ?_ ?_); (first | omega | (simp only [List.length_cons, List.length_nil, List.length_map, List.length_append]; omega))) | ((with_reducible refine' V.x_iteF ?_ ?_); (first | omega | (simp only [List.length_cons, List.length_nil, List.length_map, List.length_append]; omega))) | ((with_reducible refine' V.x_itenT ?_ ?_); (first | omega | (simp only [List.length_cons, List.length_nil, List.length_map, List.length_append]; omega))) | ((with_reducible refine' V.x_itenF ?_ ?_); (first | omega | (simp only [List.length_cons, List.length_nil, List.length_map, List.length_append]; omega))) | ((with_reducible refine' V.x_sfldQ ?_ ?_ ?_ ?_); assumption; assumption; exact Nat.le_of_ble_eq_true rfl) | ((with_reducible refine' V.x_sfldP ?_ ?_ ?_ ?_ ?_); rotate_left 2; assumption; assumption; assumption; exact Nat.le_of_ble_eq_true rfl) | ((with_reducible refine' V.x_fldI 0 ?_ ?_ ?_ ?_ ?_ ?_); rotate_left; exact rfl; exact rfl; assumption; assumption; decide +kernel) | ((with_reducible refine' V.x_fldI 1 ?_ ?_ ?_ ?_ ?_ ?_); rotate_left; exact rfl; exact rfl; assumption; assumption; decide +kernel) | ((with_reducible refine' V.x_fldI 2 ?_ ?_ ?_ ?_ ?_ ?_); rotate_left; exact rfl; exact rfl; assumption; assumption; decide +kernel) | ((with_reducible refine' V.x_fldI 3 ?_ ?_ ?_ ?_ ?_ ?_); rotate_left; exact rfl; exact rfl; assumption; assumption; decide +kernel) | ((with_reducible refine' V.x_fldI 4 ?_ ?_ ?_ ?_ ?_ ?_); rotate_left; exact rfl; exact rfl; assumption; assumption; decide +kernel) | ((with_reducible refine' V.x_fldI 5 ?_ ?_ ?_ ?_ ?_ ?_); rotate_left; exact rfl; exact rfl; assumption; assumption; decide +kernel) | ((with_reducible refine' V.x_fldI 6 ?_ ?_ ?_ ?_ ?_ ?_); rotate_left; exact rfl; exact rfl; assumption; assumption; decide +kernel) | ((with_reducible refine' V.x_fldQ 0 ?_ ?_ ?_ ?_ ?_ ?_ ?_); rotate_left 3; assumption; exact rfl; exact rfl; assumption; assumption; (first | decide +kernel | (simp only [List.map_cons, List.map_nil]; decide +kernel))) | ((with_reducible refine' V.x_fldQ 1 ?_ ?_ ?_ ?_ ?_ ?_ ?_); rotate_left 3; assumption; exact rfl; exact rfl; assumption; assumption; (first | decide +kernel | (simp only [List.map_cons, List.map_nil]; decide +kernel))) | ((with_reducible refine' V.x_fldQ 2 ?_ ?_ ?_ ?_ ?_ ?_ ?_); rotate_left 3; assumption; exact rfl; exact rfl; assumption; assumption; (first | decide +kernel | (simp only [List.map_cons, List.map_nil]; decide +kernel))) | ((with_reducible refine' V.x_fldQ 3 ?_ ?_ ?_ ?_ ?_ ?_ ?_); rotate_left 3; assumption; exact rfl; exact rfl; assumption; assumption; (first | decide +kernel | (simp only [List.map_cons, List.map_nil]; decide +kernel))) | ((with_reducible refine' V.x_fldQ 4 ?_ ?_ ?_ ?_ ?_ ?_ ?_); rotate_left 3; assumption; exact rfl; exact rfl; assumption; assumption; (first | decide +kernel | (simp only [List.map_cons, List.map_nil]; decide +kernel))) | ((with_reducible refine' V.x_fldQ 5 ?_ ?_ ?_ ?_ ?_ ?_ ?_); rotate_left 3; assumption; exact rfl; exact rfl; assumption; assumption; (first | decide +kernel | (simp only [List.map_cons, List.map_nil]; decide +kernel))) | ((with_reducible refine' V.x_fldQ 6 ?_ ?_ ?_ ?_ ?_ ?_ ?_); rotate_left 3; assumption; exact rfl; exact rfl; assumption; assumption; (first | decide +kernel | (simp only [List.map_cons, List.map_nil]; decide +kernel))) | (with_reducible (first | refine V.x_opX ?_ | refine V.x_loopC ?_ | refine V.x_loopN ?_ | refine V.x_split ?_)) | ((with_reducible apply V.x_callLX); exact rfl; (with_reducible exact rfl)) | ((with_reducible apply V.x_callLN); exact rfl; (with_reducible exact rfl)) | ((with_reducible refine' V.x_orL ?_); (with_reducible apply V.x_callLX); exact rfl; (with_reducible exact rfl)) | ((with_reducible refine' V.x_orL ?_); (with_reducible apply V.x_callLN); exact rfl; (with_reducible exact rfl)) | (with_reducible refine' V.x_orR ?_) | ((with_reducible apply V.x_ap1); walk_at "vmem") | ((with_reducible apply V.x_ap2); walk_at "vmem"; (simp [V.sizeLineN]); (first | rw [V.mset_set] | rw [V.mset_set2 (by assumption)] | skip)))))
namespace G
open PySem PySem.Spec PyProof.Rows L2 U
section
variable {P : Program} {w : World} {K : PySem.W.Frag} {mg : Str → Option Value} {base : Heap}
theorem ok1__law_ladle (T : Tx K mg) : FnOk P w K mg base L2.CX0 lv__law_ladle T.f__law_ladle T.d__law_ladle p__law_ladle spDraw1 := by
  refine T.F__law_ladle.ok sc__law_ladle (fun vs H Q E h => ?_) (fun cdv A outer s H vs Q E hr h => ?_)
  · obtain ⟨p, n, a, b, c, rfl, _⟩ := h
    rfl
  · obtain ⟨p, n, a, b, c, rfl, hp, ⟨hn, hn2⟩, q⟩ := h
    refine ⟨_, (pss_cons (ps_asg (pe_op op_addU (pe_ix (ix_K (K := K) rfl) (pv 0) pe_int (fun _ _ => rfl)) pe_int) (pg_sub (pv 0) pe_int set_list))
        (pss_cons (ps_if (pt_cmpR op_gt (pe_ix (ix_K (K := K) rfl) (pv 0) pe_int (fun _ _ => rfl)) pe_int (nomark _)) (pss_cons (ps_asg (pe_callB call_divmod (by rfl) T.n_divmod (by decide +kernel) (pa_cons (pe_callTy call_intU (by rfl) T.n_int (by decide +kernel) (pa_cons (pe_ix (ix_K (K := K) rfl) (pv 0) pe_int (fun _ _ => rfl)) pa_nil)) (pa_cons (pv 1) pa_nil))) (pg_tupK (K := K) (n := 2) rfl rfl (pgs_cons (pg_sub (pv 0) pe_int set_list) (pgs_cons (pg_name (i := 2) sc__law_ladle.nd rfl (by first | exact Or.inl rfl | exact Or.inr rfl)) pgs_nil))))
        (pss_one (ps_ret (pv 2)))) pss_nil)
        (pss_cons (ps_asg (pe_op op_mod (pe_callTy call_intU (by rfl) T.n_int (by decide +kernel) (pa_cons (pe_op op_addU (pe_op op_addU (pe_op op_mul (pe_ix (ix_K (K := K) rfl) (pv 0) pe_int (fun _ _ => rfl)) pe_int) (pe_op op_mul (pe_ix (ix_K (K := K) rfl) (pv 0) pe_int (fun _ _ => rfl)) pe_int)) (pe_op op_mul (pe_op op_fdiv (pe_ix (ix_K (K := K) rfl) (pv 0) pe_int (fun _ _ => rfl)) pe_int) pe_int)) pa_nil)) pe_int) (pg_sub (pv 0) pe_int set_list))
        (pss_one (ps_ret (pe_op op_mod (pe_callTy call_intU (by rfl) T.n_int (by decide +kernel) (pa_cons (pe_op op_fdiv (pe_ix (ix_K (K := K) rfl) (pv 0) pe_int (fun _ _ => rfl)) pe_int) pa_nil)) (pv 1))))))), ?_⟩
    walk_at "go"
    refine ⟨_, .inl (SqL.of hp), _, rfl, ?_⟩
    walk_at "go"
    refine ⟨p, _, 1, 1, rfl, rfl, hp, rfl, ?_⟩
    have e1 : ([V.int a, V.int b, V.int c] : List V).set 1 (V.int (b + 3)) = [.int a, .int (b + 3), .int c] := rfl
    rw [e1]
    refine ⟨_, .inl (SqL.of upd_same), _, rfl, ?_⟩
    walk_at "go"
    refine ite2 (fun ca => ?_) (fun ca => ?_)
    · refine ⟨_, .inl (SqL.of upd_same), _, rfl, ?_⟩
      walk_at "go"
      refine ⟨a, n, rfl, ⟨hn, hn2⟩, fun t ht => ?_⟩
      have npt : p ≠ t := ne_of_none upd_same ht
      refine ⟨_, SqT.of upd_same, rfl, ?_⟩
      walk_at "go"
      refine ⟨p, _, 0, 0, rfl, rfl, (by rw [upd_ne npt]; exact upd_same), rfl, ?_⟩
      rw [upd_ne npt.symm] at ht
      refine q _ _ _ _ _ ?_ upd_same (Int.emod_nonneg _ (by omega)) (Int.emod_lt_of_pos _ hn)
      refine Ext.mut (Ext.new (Ext.mut (Ext.refl _) rfl) ?_) rfl
      rw [upd_ne npt.symm]
      exact ht
    · refine ⟨_, .inl (SqL.of upd_same), _, rfl, ?_⟩
      walk_at "go"
      refine ⟨.inr ⟨by decide, by decide⟩, _, .inl (SqL.of upd_same), _, rfl, ?_⟩
      walk_at "go"
      refine ⟨.inr ⟨by decide, by decide⟩, _, .inl (SqL.of upd_same), _, rfl, ?_⟩
      walk_at "go"
      refine ⟨⟨by decide, by decide⟩, .inr ⟨by decide, by decide⟩, by decide, ?_⟩
      refine ⟨p, _, 2, 2, rfl, rfl, upd_same, rfl, ?_⟩
      refine ⟨_, .inl (SqL.of upd_same), _, rfl, ?_⟩
      walk_at "go"
      refine ⟨⟨by decide, by decide⟩, hn, ?_⟩
      refine q _ _ _ _ _ ?_ upd_same (Int.emod_nonneg _ (by omega)) (Int.emod_lt_of_pos _ hn)
      exact Ext.mut (Ext.mut (Ext.refl _) rfl) rfl
theorem ok__law_ladle (T : Tx K mg) : FnOk P w K mg base L2.CX0 lv__law_ladle T.f__law_ladle T.d__law_ladle p__law_ladle spDraw := fn_draw (ok1__law_ladle T) rfl
theorem ok1__law_pot (T : Tx K mg) : FnOk P w K mg base L2.CX0 lv__law_pot T.f__law_pot T.d__law_pot p__law_pot (spPot1 K) := by
  refine T.F__law_pot.ok sc__law_pot (fun vs H Q E h => ?_) (fun cdv A outer s H vs Q E hr h => ?_)
  · obtain ⟨a, ns, i, rfl, _⟩ := h
    rfl
  · obtain ⟨a, ns, i, rfl, hS, hn, hi, q⟩ := h
    refine ⟨_, (pss_cons (ps_set (i := 2) sc__law_pot.nd rfl (by first | exact Or.inl rfl | exact Or.inr rfl) (pe_ifExp (pt_cmpR op_ltU (pv 1) (pe_callB (call_lenK (K := K) rfl) (by rfl) T.n_len (by decide +kernel) (pa_cons (pv 0) pa_nil)) (nomark _)) (pe_callTy call_intU (by rfl) T.n_int (by decide +kernel) (pa_cons (pe_ix (ix_K (K := K) rfl) (pv 0) (pv 1) (fun _ _ => rfl)) pa_nil)) (pe_op op_addU (pe_op op_mul pe_int (pv 1)) pe_int)))
        (pss_cons (ps_set (i := 3) sc__law_pot.nd rfl (by first | exact Or.inl rfl | exact Or.inr rfl) (pe_op op_addU pe_int (pe_op op_mul pe_int (pv 1))))
        (pss_cons (ps_for PassesOwn.never rfl (pi_listK (K := K) rfl (pe_slice (sl_K (K := K) rfl) (pv 0) po_none (po_some pe_int))) (pg_name (i := 4) sc__law_pot.nd rfl (by first | exact Or.inl rfl | exact Or.inr rfl)) (pss_one (ps_set (i := 3) sc__law_pot.nd rfl (by first | exact Or.inl rfl | exact Or.inr rfl) (pe_op op_mod (pe_callTy call_intU (by rfl) T.n_int (by decide +kernel) (pa_cons (pe_op op_addU (pe_op op_mul (pv 3) pe_int) (pe_op op_mod (pe_callTy call_intU (by rfl) T.n_int (by decide +kernel) (pa_cons (pv 4) pa_nil)) pe_int)) pa_nil)) pe_int))))
        (pss_one (ps_ret (pe_lst (pa_cons (pe_ifExp (PW.pt (pw_or (pt_cmpR op_ltU (pv 2) pe_int (nomark _)) (pw_or1 (pt_cmpR op_ge (pv 2) (pe_op op_pow pe_int pe_int) (nomark _))))) (pe_callB call_absU (by rfl) T.n_abs (by decide +kernel) (pa_cons (pv 2) pa_nil)) pe_int) (pa_cons pe_int (pa_cons (pe_op op_mod (pe_callTy call_intU (by rfl) T.n_int (by decide +kernel) (pa_cons (pe_op op_addU (pe_op op_mul (pv 3) pe_int) (pe_op op_mod (pv 2) pe_int)) pa_nil)) pe_int) pa_nil))))))))), ?_⟩
    walk_at "go"
    refine ⟨_, .inl hS, ?_⟩
    walk_at "go"
    refine ite2 (fun c => ?_) (fun c => ?_)
    rw [List.length_map] at c
    have hz : ns[i]? = some ns[i] := by simp [show i < ns.length by omega]
    refine ⟨_, .inl hS, .int ns[i], atI_nat (by rw [List.getElem?_map, hz]; rfl), ?_⟩
    walk_at "go"
    refine ⟨.inl ⟨by decide, by decide⟩, ?_⟩
    rotate_left
    refine ⟨.inl ⟨by decide, by decide⟩, .inl ⟨by decide, by decide⟩, ?_⟩
    all_goals
      refine ⟨_, sli_l hS, fun p1 np1 => ?_⟩
      have e14 : cutV (ns.map V.int) none (some 14) = (ns.take 14).map V.int := by rw [List.map_take]; exact cutV_to _ 14
      rw [e14]
      have s1 := Same.new (o := .lst ((ns.take 14).map V.int)) np1
      refine forL (S := N0) upd_same (fun z => z) (fun j σ H' => Same H H' ∧ Ext N0 (upd H p1 (.lst ((ns.take 14).map V.int))) H' ∧ ∃ o m u, σ = [some (.ref a), some (.int i), some (.int o), some (.int m), u]) ⟨s1, Ext.refl _, _, _, _, rfl⟩ (fun j σ' H' hI => hI.2.1) ?_ ?_
      · rintro j x σ' H' hx ⟨hS1, hE, o, m, u, rfl⟩
        rw [List.getElem?_map] at hx
        obtain ⟨z, _, rfl⟩ := Option.map_eq_some_iff.mp hx
        walk_at "go"
        exact ⟨.inr ⟨by decide, by decide⟩, by decide, by decide, hS1, hE, _, _, _, rfl⟩
      · rintro σ' H' ⟨hS1, hE, o, m, u, rfl⟩
        walk_at "go"
        have fin : ∀ n : Int, (CMul m 9 ∧ (0 : Int) < 1999999889 ∧ (0 : Int) < 1999999889 ∧ 3 ≤ sizeLine ∧ ∀ p, H' p = none → Q (.ref p) (upd H' p (.lst [.int n, .int 2, .int ((m * 9 + o % 1999999889) % 1999999889)]))) := fun n =>
          ⟨.inr ⟨by decide, by decide⟩, by decide, by decide, by decide, fun p hp => q p _ _ _ _ (Same.snew hS1 hp) (Same.free hS1 hp) upd_same⟩
        refine ite2 (fun c1 => fin _) (fun c1 => ⟨⟨by decide, by decide, by decide⟩, ite2 (fun c2 => fin _) (fun c2 => fin _)⟩)
theorem ok__law_pot (T : Tx K mg) : FnOk P w K mg base L2.CX0 lv__law_pot T.f__law_pot T.d__law_pot p__law_pot (spPot K) := fn_newPot (ok1__law_pot T) rfl
end
end G
namespace G
open PySem PySem.Spec PyProof.Rows L2 U V
section
variable {P : Program} {w : World} {K : PySem.W.Frag} {mg : Str → Option Value} {base : Heap}
def tyNames : List String := ["NoneType", "bool", "int", "str", "list", "tuple", "dict"]
def spIsInteger (K : PySem.W.Frag) : DC := fun ds M R => ∃ d, ds = [d] ∧ ∃ t : String, TyD K M d (.type t) ∧ t ∈ tyNames ∧ ∃ b, (t == "int") = b ∧ R (.bl b) M
theorem okD_is_integer (T : Tx K mg) : FnOk P w K mg base L2.CX0 lv_is_integer T.f_is_integer T.d_is_integer p_is_integer (lift (spIsInteger K)) := by
  refine fnD T.F_is_integer sc_is_integer (fun ds M R h => ?_) (fun cdv A outer s H E hr => ?_)
  · first | (obtain ⟨rfl, _⟩ := h; rfl) | (obtain ⟨_, rfl, _⟩ := h; rfl) | (obtain ⟨_, _, rfl, _⟩ := h; rfl) | (obtain ⟨_, _, _, rfl, _⟩ := h; rfl) | (obtain ⟨_, _, _, _, rfl, _⟩ := h; rfl) | (obtain ⟨_, _, _, _, _, rfl, _⟩ := h; rfl) | (obtain ⟨_, _, _, _, _, _, rfl, _⟩ := h; rfl) | (obtain ⟨_, _, _, _, _, _, _, rfl, _⟩ := h; rfl) | (obtain ⟨_, _, _, _, _, _, _, _, rfl, _⟩ := h; rfl)
  · have hr64 := hr.units
    have hc_Shortener := T.c_Shortener
    have hi_Shortener := T.i_Shortener
    have hn_Shortener_limit := T.na_Shortener_limit
    have hn_Shortener_head := T.na_Shortener_head
    have hn_Shortener_tail := T.na_Shortener_tail
    have hn_Shortener_mark := T.na_Shortener_mark
    have hn_Shortener_told := T.na_Shortener_told
    refine ⟨_, (pss_one (ps_ret (pe_and (pe_callB (call_isiK (K := K) rfl) (by rfl) T.n_isinstance (by decide +kernel) (pa_cons (pv 0) (pa_cons (pe_bt "int" rfl T.n_int (by decide +kernel)) pa_nil))) (pe_one (pe_not (pe_callB (call_isiK (K := K) rfl) (by rfl) T.n_isinstance (by decide +kernel) (pa_cons (pv 0) (pa_cons (pe_bt "bool" rfl T.n_bool (by decide +kernel)) pa_nil)))))))), ?_⟩
    refine ⟨_, inferInstance, fun ds M R h => ?_⟩
    obtain ⟨d, rfl, t, ty, ht, _, rfl, q⟩ := h
    walk_at "dw"
    have k1 : ∀ s : String, s ∈ tyNames → kitB s "int" = some (s == "int" || s == "bool") ∧ kitB s "bool" = some (s == "bool") := by decide +kernel
    obtain ⟨k2, k3⟩ := k1 t ht
    refine ⟨_, _, ty, kit_ty k2, ?_⟩
    walk_at "dw"
    cases h1 : (t == "int" || t == "bool") with
    | true =>
      walk_at "dw"
      refine ⟨_, _, ty, kit_ty k3, ?_⟩
      walk_at "dw"
      cases h2 : (t == "bool") with
      | true =>
        have e : t = "bool" := by simpa using h2
        subst e
        exact q
      | false =>
        rw [h2, Bool.or_false] at h1
        rw [h1] at q
        exact q
    | false =>
      walk_at "dw"
      rw [Bool.or_eq_false_iff] at h1
      rw [h1.1] at q
      exact q
def spIsText (K : PySem.W.Frag) : DC := fun ds M R => ∃ d, ∃ n : Nat, ds = [d, .int n] ∧ ((∃ z, d = .str z ∧ z.length ≤ 16777216 ∧ R (.bl (okText n z)) M) ∨ ∃ t : String, TyD K M d (.type t) ∧ t ∈ tyNames ∧ t ≠ "str" ∧ R (.bl false) M)
theorem okD_is_text (T : Tx K mg) : FnOk P w K mg base L2.CX0 lv_is_text T.f_is_text T.d_is_text p_is_text (lift (spIsText K)) := by
  refine fnD T.F_is_text sc_is_text (fun ds M R h => ?_) (fun cdv A outer s H E hr => ?_)
  · first | (obtain ⟨rfl, _⟩ := h; rfl) | (obtain ⟨_, rfl, _⟩ := h; rfl) | (obtain ⟨_, _, rfl, _⟩ := h; rfl) | (obtain ⟨_, _, _, rfl, _⟩ := h; rfl) | (obtain ⟨_, _, _, _, rfl, _⟩ := h; rfl) | (obtain ⟨_, _, _, _, _, rfl, _⟩ := h; rfl) | (obtain ⟨_, _, _, _, _, _, rfl, _⟩ := h; rfl) | (obtain ⟨_, _, _, _, _, _, _, rfl, _⟩ := h; rfl) | (obtain ⟨_, _, _, _, _, _, _, _, rfl, _⟩ := h; rfl)
  · have hr64 := hr.units
    have hc_Shortener := T.c_Shortener
    have hi_Shortener := T.i_Shortener
    have hn_Shortener_limit := T.na_Shortener_limit
    have hn_Shortener_head := T.na_Shortener_head
    have hn_Shortener_tail := T.na_Shortener_tail
    have hn_Shortener_mark := T.na_Shortener_mark
    have hn_Shortener_told := T.na_Shortener_told
    refine ⟨_, (pss_one (ps_ret (pe_and (pe_callB (call_isiK (K := K) rfl) (by rfl) T.n_isinstance (by decide +kernel) (pa_cons (pv 0) (pa_cons (pe_bt "str" rfl T.n_str (by decide +kernel)) pa_nil))) (pe_and (pe_cmpR op_le (pe_callB (call_lenK (K := K) rfl) (by rfl) T.n_len (by decide +kernel) (pa_cons (pv 0) pa_nil)) (pv 1) (nomark _)) (pe_one (pe_callB (cr_allK (K := K) rfl rfl) (by rfl) T.n_all (by decide +kernel) (pa_cons (pe_lc (own := [("sign", 2)]) rfl sc_is_text.nd (pi_str (pv 0)) (blkOk_by (N := ["value", "most", "sign"]) (sc := L2.defScope s_is_text) (by decide +kernel)) (fun _ _ _ _ _ => (pg_name (i := 2) sc_is_text.nd rfl (by first | exact Or.inl rfl | exact Or.inr rfl))) (fun _ _ _ _ _ => pts_nil) (fun _ _ _ _ _ => (pe_cmpR (op_inK (K := K) rfl) (pv 2) (C8.pe_gc rfl T.k_SIGNS) (by rfl)))) pa_nil))))))), ?_⟩
    refine ⟨_, inferInstance, fun ds M R h => ?_⟩
    obtain ⟨d, n, rfl, h⟩ := h
    walk_at "dw"
    rcases h with ⟨z, rfl, hz, q⟩ | ⟨t, ty, ht, hs, q⟩
    · refine ⟨_, true, .str _, kit_ty (by decide +kernel), ?_⟩
      walk_at "dw"
      refine V.x_lenS ⟨by rw [sizeLine_eq]; exact hz, ?_⟩
      walk_at "dw"
      refine x_ite _ (fun c => ?_) (fun c => ?_)
      · have c' : z.length ≤ n := by exact_mod_cast c
        walk_at "dw"
        refine ⟨by rw [List.length_map, cd_len]; exact hz, ?_⟩
        refine gather_all (f := fun d => match d with | .str y => .bl (isSign (y.cps.toList.getD 0 0)) | d => d) ?_ trivial ?_
        · intro x hx Ky hy
          obtain ⟨c, hc, rfl⟩ := List.mem_map.mp hx
          walk_at "dw"
          exact ⟨c, rfl, hy⟩
        · walk_at "dw"
          refine ⟨_, (cd z).map isSign, rfl, .inl ?_, ?_⟩
          · rw [List.map_map, List.map_map]
            rfl
          · have e3 : ((cd z).map isSign).all id = okText n z := by
              unfold okText
              rw [decide_eq_true c', List.all_map]
              rfl
            rw [e3]
            exact q
      · have e3 : okText n z = false := by
          unfold okText
          rw [decide_eq_false (fun z => c (by exact_mod_cast z)), Bool.false_and]
        rw [e3] at q
        exact q
    · have k1 : ∀ s : String, s ∈ tyNames → s ≠ "str" → kitB s "str" = some false := by decide +kernel
      refine ⟨_, _, ty, kit_ty (k1 t ht hs), ?_⟩
      walk_at "dw"
      exact q
def spCheckNumber : DC := fun ds M R => ∃ n : Nat, ds = [.int n] ∧ n ≤ 40 ∧ R .non M
theorem okD_check_number (T : Tx K mg) : FnOk P w K mg base L2.CX0 lv_check_number T.f_check_number T.d_check_number p_check_number (lift (spCheckNumber)) := by
  refine fnD T.F_check_number sc_check_number (fun ds M R h => ?_) (fun cdv A outer s H E hr => ?_)
  · first | (obtain ⟨rfl, _⟩ := h; rfl) | (obtain ⟨_, rfl, _⟩ := h; rfl) | (obtain ⟨_, _, rfl, _⟩ := h; rfl) | (obtain ⟨_, _, _, rfl, _⟩ := h; rfl) | (obtain ⟨_, _, _, _, rfl, _⟩ := h; rfl) | (obtain ⟨_, _, _, _, _, rfl, _⟩ := h; rfl) | (obtain ⟨_, _, _, _, _, _, rfl, _⟩ := h; rfl) | (obtain ⟨_, _, _, _, _, _, _, rfl, _⟩ := h; rfl) | (obtain ⟨_, _, _, _, _, _, _, _, rfl, _⟩ := h; rfl)
  · have hr64 := hr.units
    have hc_Shortener := T.c_Shortener
    have hi_Shortener := T.i_Shortener
    have hn_Shortener_limit := T.na_Shortener_limit
    have hn_Shortener_head := T.na_Shortener_head
    have hn_Shortener_tail := T.na_Shortener_tail
    have hn_Shortener_mark := T.na_Shortener_mark
    have hn_Shortener_told := T.na_Shortener_told
    refine ⟨_, (pss_one (ps_if (PW.pt (pw_or (pt_not (pt_val (pe_call (okD_is_integer (w := w) T) (hr.mono (by decide)) rfl T.m_is_integer T.F_is_integer.kp T.b_is_integer .nil pass0 (pa_cons (pv 0) pa_nil)))) (pw_or1 (pt_not (pt_chain op_le op_le pe_int (pv 0) (C8.pe_gc rfl T.k_MOST_SIGNS)))))) (pss_one ps_never) pss_nil)), ?_⟩
    refine ⟨_, inferInstance, fun ds M R h => ?_⟩
    obtain ⟨n, rfl, hn, q⟩ := h
    walk_at "dw"
    refine ⟨_, rfl, _, .int _, by decide, true, rfl, ?_⟩
    walk_at "dw"
    exact q
def shFs (s : Sh) : List (Str × D) := [("limit", .int s.limit), ("head", .int s.head), ("tail", .int s.tail), ("mark", .str s.mark), ("told", toldD s)]
def spShI (C : Addr) : DC := fun ds M R => ∃ (x : Addr) (s : Sh), ds = [.ptr x, .int s.limit, .int s.head, .int s.tail, .str s.mark] ∧ s.ok ∧ M x = some (.ins C []) ∧ R .non (mset M x (.ins C (shFs s)))
theorem okD_Shortener___init__ (T : Tx K mg) : FnOk P w K mg base L2.CX0 lv_Shortener___init__ T.f_Shortener___init__ T.d_Shortener___init__ p_Shortener___init__ (lift (spShI T.C_Shortener)) := by
  refine fnD T.F_Shortener___init__ sc_Shortener___init__ (fun ds M R h => ?_) (fun cdv A outer s H E hr => ?_)
  · first | (obtain ⟨rfl, _⟩ := h; rfl) | (obtain ⟨_, rfl, _⟩ := h; rfl) | (obtain ⟨_, _, rfl, _⟩ := h; rfl) | (obtain ⟨_, _, _, rfl, _⟩ := h; rfl) | (obtain ⟨_, _, _, _, rfl, _⟩ := h; rfl) | (obtain ⟨_, _, _, _, _, rfl, _⟩ := h; rfl) | (obtain ⟨_, _, _, _, _, _, rfl, _⟩ := h; rfl) | (obtain ⟨_, _, _, _, _, _, _, rfl, _⟩ := h; rfl) | (obtain ⟨_, _, _, _, _, _, _, _, rfl, _⟩ := h; rfl)
  · have hr64 := hr.units
    have hc_Shortener := T.c_Shortener
    have hi_Shortener := T.i_Shortener
    have hn_Shortener_limit := T.na_Shortener_limit
    have hn_Shortener_head := T.na_Shortener_head
    have hn_Shortener_tail := T.na_Shortener_tail
    have hn_Shortener_mark := T.na_Shortener_mark
    have hn_Shortener_told := T.na_Shortener_told
    refine ⟨_, (pss_cons (ps_expr (pe_call (okD_check_number (w := w) T) (hr.mono (by decide)) rfl T.m_check_number T.F_check_number.kp T.b_check_number .nil pass0 (pa_cons (pv 1) pa_nil)))
        (pss_cons (ps_expr (pe_call (okD_check_number (w := w) T) (hr.mono (by decide)) rfl T.m_check_number T.F_check_number.kp T.b_check_number .nil pass0 (pa_cons (pv 2) pa_nil)))
        (pss_cons (ps_expr (pe_call (okD_check_number (w := w) T) (hr.mono (by decide)) rfl T.m_check_number T.F_check_number.kp T.b_check_number .nil pass0 (pa_cons (pv 3) pa_nil)))
        (pss_cons (ps_if (pt_not (pt_val (pe_call (okD_is_text (w := w) T) (hr.mono (by decide)) rfl T.m_is_text T.F_is_text.kp T.b_is_text .nil pass0 (pa_cons (pv 4) (pa_cons (C8.pe_gc rfl T.k_MOST_MARK) pa_nil))))) (pss_one ps_never) pss_nil)
        (pss_cons (ps_fld (pv 0) (pv 1) rfl)
        (pss_cons (ps_fld (pv 0) (pv 2) rfl)
        (pss_cons (ps_fld (pv 0) (pv 3) rfl)
        (pss_cons (ps_fld (pv 0) (pv 4) rfl)
        (pss_one (ps_fld (pv 0) (pe_tup (pa_cons (pv 1) (pa_cons (pv 2) (pa_cons (pv 3) (pa_cons (pv 4) pa_nil))))) rfl)))))))))), ?_⟩
    refine ⟨_, inferInstance, fun ds M R h => ?_⟩
    obtain ⟨x, sh, rfl, ⟨o1, o2, o3, o4⟩, hx, q⟩ := h
    walk_at "dw"
    refine ⟨_, rfl, o1, ?_⟩
    walk_at "dw"
    refine ⟨_, rfl, o2, ?_⟩
    walk_at "dw"
    refine ⟨_, rfl, o3, ?_⟩
    walk_at "dw"
    have h1 := (okText_iff.mp o4).1
    refine ⟨_, 3, rfl, .inl ⟨sh.mark, rfl, by omega, ?_⟩⟩
    rw [o4]
    walk_at "dw"
    exact q
theorem okF_Shortener___init__ (T : Tx K mg) : FnOk P w K mg base L2.CX0 lv_Shortener___init__ T.f_Shortener___init__ T.d_Shortener___init__ p_Shortener___init__ (liftF (spShI T.C_Shortener)) := okD_Shortener___init__ T
/-- a new shortener -/
theorem mk_sh {C : Addr} {s : Sh} {M : Mem} {R : QD} (h : s.ok) (q : R (shD C s) M) : rMakeF C (spShI C) [.int s.limit, .int s.head, .int s.tail, .str s.mark] M R := fun x hx =>
  ⟨x, s, rfl, h, mset_same, rfl, shFs s, mset_same, by rw [mset_set, mdel_set hx]; exact q⟩
def spCut (C : Addr) : DC := fun ds M R => ∃ (s : Sh) (xs : List D), ds = [shD C s, .lst xs] ∧ s.ok ∧ xs.length ≤ 4000000 ∧ R (.lst (cutP sgn s xs)) M
theorem cutG_to {α : Type} (xs : List α) (n : Nat) : cutG xs none (some (n : Int)) = xs.take n := by
  unfold cutG
  rw [HT.sIx_none, HT.sIx_nat, List.drop_zero, Nat.sub_zero]
  by_cases h : n ≤ xs.length
  · rw [Nat.min_eq_left h]
  · rw [Nat.min_eq_right (by omega), List.take_of_length_le (by omega), List.take_of_length_le (by omega)]
theorem cutG_from {α : Type} (xs : List α) (n : Nat) : cutG xs (some (n : Int)) none = xs.drop n := by
  unfold cutG
  rw [HT.sIx_none, HT.sIx_nat]
  by_cases h : n ≤ xs.length
  · rw [Nat.min_eq_left h]
    exact List.take_of_length_le (by rw [List.length_drop]; omega)
  · rw [Nat.min_eq_right (by omega), Nat.sub_self, List.take_zero, List.drop_eq_nil_of_le (by omega)]
theorem okD_Shortener_cut (T : Tx K mg) : FnOk P w K mg base L2.CX0 lv_Shortener_cut T.f_Shortener_cut T.d_Shortener_cut p_Shortener_cut (lift (spCut T.C_Shortener)) := by
  refine fnD T.F_Shortener_cut sc_Shortener_cut (fun ds M R h => ?_) (fun cdv A outer s H E hr => ?_)
  · first | (obtain ⟨rfl, _⟩ := h; rfl) | (obtain ⟨_, rfl, _⟩ := h; rfl) | (obtain ⟨_, _, rfl, _⟩ := h; rfl) | (obtain ⟨_, _, _, rfl, _⟩ := h; rfl) | (obtain ⟨_, _, _, _, rfl, _⟩ := h; rfl) | (obtain ⟨_, _, _, _, _, rfl, _⟩ := h; rfl) | (obtain ⟨_, _, _, _, _, _, rfl, _⟩ := h; rfl) | (obtain ⟨_, _, _, _, _, _, _, rfl, _⟩ := h; rfl) | (obtain ⟨_, _, _, _, _, _, _, _, rfl, _⟩ := h; rfl)
  · have hr64 := hr.units
    have hc_Shortener := T.c_Shortener
    have hi_Shortener := T.i_Shortener
    have hn_Shortener_limit := T.na_Shortener_limit
    have hn_Shortener_head := T.na_Shortener_head
    have hn_Shortener_tail := T.na_Shortener_tail
    have hn_Shortener_mark := T.na_Shortener_mark
    have hn_Shortener_told := T.na_Shortener_told
    refine ⟨_, (pss_cons (ps_if (pt_cmpR op_le (pe_callB (call_lenK (K := K) rfl) (by rfl) T.n_len (by decide +kernel) (pa_cons (pv 1) pa_nil)) (pe_fldK (K := K) rfl (pv 0)) (nomark _)) (pss_one (ps_ret (pv 1))) pss_nil)
        (pss_one (ps_ret (pe_lst (pa_starK (K := K) rfl (pe_slice (sl_Z (K := K) rfl) (pv 1) po_none (po_some (pe_fldK (K := K) rfl (pv 0)))) (pa_starK (K := K) rfl (pe_callTy (call_listK (K := K) rfl rfl) (by rfl) T.n_list (by decide +kernel) (pa_cons (pe_fldK (K := K) rfl (pv 0)) pa_nil)) (pa_starK (K := K) rfl (pe_slice (sl_Z (K := K) rfl) (pv 1) (po_some (pe_callB (call_maxU rfl) (by rfl) T.n_max (by decide +kernel) (pa_cons pe_int (pa_cons (pe_op op_sub (pe_callB (call_lenK (K := K) rfl) (by rfl) T.n_len (by decide +kernel) (pa_cons (pv 1) pa_nil)) (pe_fldK (K := K) rfl (pv 0))) pa_nil)))) po_none) pa_nil))))))), ?_⟩
    refine ⟨_, inferInstance, fun ds M R h => ?_⟩
    obtain ⟨s, xs, rfl, hs, hl, q⟩ := h
    unfold shD
    walk_at "dw"
    refine x_ite _ (fun c => ?_) (fun c => ?_)
    · walk_at "dw"
      rw [show cutP sgn s xs = xs by unfold cutP; rw [if_pos (by omega)]] at q
      exact q
    · walk_at "dw"
      have hm := (okText_iff.mp hs.2.2.2).1
      refine V.x_listS ⟨by rw [sizeLine_eq]; omega, ?_⟩
      walk_at "dw"
      have e2 : (if ((xs.length : Int) - (s.tail : Int) > 0) then ((xs.length : Int) - (s.tail : Int)) else 0) = ((xs.length - s.tail : Nat) : Int) := by
        split <;> omega
      rw [e2, cutG_from, cutG_to]
      refine ⟨?_, ?_⟩
      · rw [sizeLine_eq, List.length_append, List.length_append, List.length_append, List.length_take, List.length_drop, List.length_map, cd_len]
        simp
        omega
      · unfold cutP at q
        rw [if_neg (by omega), List.append_assoc] at q
        rw [List.append_nil]
        exact q
def spCheckRow (C : Addr) : DC := fun ds M R => ∃ row : List Sh, ds = [rowD C row] ∧ 1 ≤ row.length ∧ row.length ≤ 4 ∧ R .non M
theorem okD_check_row (T : Tx K mg) : FnOk P w K mg base L2.CX0 lv_check_row T.f_check_row T.d_check_row p_check_row (lift (spCheckRow T.C_Shortener)) := by
  refine fnD T.F_check_row sc_check_row (fun ds M R h => ?_) (fun cdv A outer s H E hr => ?_)
  · first | (obtain ⟨rfl, _⟩ := h; rfl) | (obtain ⟨_, rfl, _⟩ := h; rfl) | (obtain ⟨_, _, rfl, _⟩ := h; rfl) | (obtain ⟨_, _, _, rfl, _⟩ := h; rfl) | (obtain ⟨_, _, _, _, rfl, _⟩ := h; rfl) | (obtain ⟨_, _, _, _, _, rfl, _⟩ := h; rfl) | (obtain ⟨_, _, _, _, _, _, rfl, _⟩ := h; rfl) | (obtain ⟨_, _, _, _, _, _, _, rfl, _⟩ := h; rfl) | (obtain ⟨_, _, _, _, _, _, _, _, rfl, _⟩ := h; rfl)
  · have hr64 := hr.units
    have hc_Shortener := T.c_Shortener
    have hi_Shortener := T.i_Shortener
    have hn_Shortener_limit := T.na_Shortener_limit
    have hn_Shortener_head := T.na_Shortener_head
    have hn_Shortener_tail := T.na_Shortener_tail
    have hn_Shortener_mark := T.na_Shortener_mark
    have hn_Shortener_told := T.na_Shortener_told
    refine ⟨_, (pss_cons (ps_if (PW.pt (pw_or (pt_not (pt_val (pe_callB (call_isiK (K := K) rfl) (by rfl) T.n_isinstance (by decide +kernel) (pa_cons (pv 0) (pa_cons (pe_bt "tuple" rfl T.n_tuple (by decide +kernel)) pa_nil))))) (pw_or1 (pt_not (pt_chain op_le op_le pe_int (pe_callB (call_lenK (K := K) rfl) (by rfl) T.n_len (by decide +kernel) (pa_cons (pv 0) pa_nil)) (C8.pe_gc rfl T.k_MOST_ROW)))))) (pss_one ps_never) pss_nil)
        (pss_one (ps_for PassesOwn.never rfl (pi_enumT (K := K) rfl rfl T.n_enumerate (pa_cons (pv 0) pa_nil)) (pg_tupK (K := K) (n := 2) rfl rfl (pgs_cons (pg_name (i := 1) sc_check_row.nd rfl (by first | exact Or.inl rfl | exact Or.inr rfl)) (pgs_cons (pg_name (i := 2) sc_check_row.nd rfl (by first | exact Or.inl rfl | exact Or.inr rfl)) pgs_nil))) (pss_one (ps_if (pt_not (pt_val (pe_callB (call_isiK (K := K) rfl) (by rfl) T.n_isinstance (by decide +kernel) (pa_cons (pv 2) (pa_cons (pe_gref rfl T.m_Shortener) pa_nil))))) (pss_one ps_never) pss_nil))))), ?_⟩
    refine ⟨_, inferInstance, fun ds M R h => ?_⟩
    obtain ⟨row, rfl, h1, h4, q⟩ := h
    unfold rowD
    walk_at "dw"
    refine ⟨_, true, .tup _, kit_ty (by decide +kernel), ?_⟩
    walk_at "dw"
    refine loop_inv (fun i δ M' => M' = M ∧ ∃ u v, δ = [some (rowD T.C_Shortener row), u, v]) ⟨rfl, _, _, rfl⟩ ?_ ?_
    · rintro i x δ M' Kc hx ⟨rfl, u, v, rfl⟩ hk
      obtain ⟨sh, hsh, rfl⟩ : ∃ s : Sh, s ∈ row ∧ x = .tup [.int (i : Nat), shD T.C_Shortener s] := by
        unfold enumD at hx
        rw [List.getElem?_mapIdx, List.getElem?_map] at hx
        cases hr : row[i]? with
        | none => rw [hr] at hx; cases hx
        | some s => rw [hr] at hx; cases hx; exact ⟨s, List.mem_of_getElem? hr, rfl⟩
      walk_at "dw"
      refine ⟨_, true, .ins (.inl rfl) T.i_Shortener, T.i_Shortener.me, ?_⟩
      walk_at "dw"
      exact (hk _ _ trivial ⟨rfl, _, _, rfl⟩).2
    · rintro δ M' ⟨rfl, _⟩
      exact q
def spCutBy (C : Addr) : DC := fun ds M R => ∃ (row : List Sh) (xs : List D), ds = [rowD C row, .lst xs] ∧ (∀ s ∈ row, s.ok) ∧ xs.length ≤ 4000000 ∧ R (.lst (cutR sgn row xs)) M
theorem okD_cut_by (T : Tx K mg) : FnOk P w K mg base L2.CX0 lv_cut_by T.f_cut_by T.d_cut_by p_cut_by (lift (spCutBy T.C_Shortener)) := by
  refine fnD T.F_cut_by sc_cut_by (fun ds M R h => ?_) (fun cdv A outer s H E hr => ?_)
  · first | (obtain ⟨rfl, _⟩ := h; rfl) | (obtain ⟨_, rfl, _⟩ := h; rfl) | (obtain ⟨_, _, rfl, _⟩ := h; rfl) | (obtain ⟨_, _, _, rfl, _⟩ := h; rfl) | (obtain ⟨_, _, _, _, rfl, _⟩ := h; rfl) | (obtain ⟨_, _, _, _, _, rfl, _⟩ := h; rfl) | (obtain ⟨_, _, _, _, _, _, rfl, _⟩ := h; rfl) | (obtain ⟨_, _, _, _, _, _, _, rfl, _⟩ := h; rfl) | (obtain ⟨_, _, _, _, _, _, _, _, rfl, _⟩ := h; rfl)
  · have hr64 := hr.units
    have hc_Shortener := T.c_Shortener
    have hi_Shortener := T.i_Shortener
    have hn_Shortener_limit := T.na_Shortener_limit
    have hn_Shortener_head := T.na_Shortener_head
    have hn_Shortener_tail := T.na_Shortener_tail
    have hn_Shortener_mark := T.na_Shortener_mark
    have hn_Shortener_told := T.na_Shortener_told
    refine ⟨_, (pss_cons (ps_for PassesOwn.never rfl (pi_tupK (K := K) rfl (pv 0)) (pg_name (i := 2) sc_cut_by.nd rfl (by first | exact Or.inl rfl | exact Or.inr rfl)) (pss_one (ps_set (i := 1) sc_cut_by.nd rfl (by first | exact Or.inl rfl | exact Or.inr rfl) (pe_meth (pv 2) T.c_Shortener T.t_Shortener_cut (okD_Shortener_cut (w := w) T) (hr.mono (by decide)) T.b_Shortener_cut .nil pass0 (pa_cons (pv 1) pa_nil)))))
        (pss_one (ps_ret (pv 1)))), ?_⟩
    refine ⟨_, inferInstance, fun ds M R h => ?_⟩
    obtain ⟨row, xs, rfl, hrow, hl, q⟩ := h
    unfold rowD
    walk_at "dw"
    refine loop_inv (fun i δ M' => M' = M ∧ ∃ u, δ = [some (rowD T.C_Shortener row), some (.lst (cutR sgn (row.take i) xs)), u]) ⟨rfl, _, rfl⟩ ?_ ?_
    · rintro i x δ M' Kc hx ⟨rfl, u, rfl⟩ hk
      rw [List.getElem?_map] at hx
      obtain ⟨sh, hsh, rfl⟩ := Option.map_eq_some_iff.mp hx
      walk_at "dw"
      refine ⟨⟨_, _, .inl rfl, by decide +kernel⟩, ?_⟩
      walk_at "dw"
      refine ⟨sh, _, rfl, hrow sh (List.mem_of_getElem? hsh), cutR_le sgn (fun t ht => hrow t (List.mem_of_mem_take ht)) _ hl (by omega), ?_⟩
      walk_at "dw"
      have hk2 := hk [some (rowD T.C_Shortener row), some (.lst (cutR sgn (row.take (i + 1)) xs)), some (shD T.C_Shortener sh)] M' trivial ⟨rfl, _, rfl⟩
      rw [take_snoc hsh, cutR_snoc] at hk2
      exact hk2.2
    · rintro δ M' ⟨rfl, u, rfl⟩
      rw [List.length_map, List.take_length]
      walk_at "dw"
      exact q
theorem rg_nums (n : Nat) : rgD 0 (n : Int) = nums n := by
  unfold rgD nums
  rw [show ((n : Int) - 0).toNat = n by omega]
  refine List.map_congr_left fun k _ => ?_
  rw [Int.zero_add]
  rfl
def spPlanOf (C : Addr) : DC := fun ds M R => ∃ (row : List Sh) (n : Nat), ds = [rowD C row, .int n] ∧ (∀ s ∈ row, s.ok) ∧ n ≤ 600 ∧ R (.lst (cutR sgn row (nums n))) M
theorem okD_plan_of (T : Tx K mg) : FnOk P w K mg base L2.CX0 lv_plan_of T.f_plan_of T.d_plan_of p_plan_of (lift (spPlanOf T.C_Shortener)) := by
  refine fnD T.F_plan_of sc_plan_of (fun ds M R h => ?_) (fun cdv A outer s H E hr => ?_)
  · first | (obtain ⟨rfl, _⟩ := h; rfl) | (obtain ⟨_, rfl, _⟩ := h; rfl) | (obtain ⟨_, _, rfl, _⟩ := h; rfl) | (obtain ⟨_, _, _, rfl, _⟩ := h; rfl) | (obtain ⟨_, _, _, _, rfl, _⟩ := h; rfl) | (obtain ⟨_, _, _, _, _, rfl, _⟩ := h; rfl) | (obtain ⟨_, _, _, _, _, _, rfl, _⟩ := h; rfl) | (obtain ⟨_, _, _, _, _, _, _, rfl, _⟩ := h; rfl) | (obtain ⟨_, _, _, _, _, _, _, _, rfl, _⟩ := h; rfl)
  · have hr64 := hr.units
    have hc_Shortener := T.c_Shortener
    have hi_Shortener := T.i_Shortener
    have hn_Shortener_limit := T.na_Shortener_limit
    have hn_Shortener_head := T.na_Shortener_head
    have hn_Shortener_tail := T.na_Shortener_tail
    have hn_Shortener_mark := T.na_Shortener_mark
    have hn_Shortener_told := T.na_Shortener_told
    refine ⟨_, (pss_one (ps_ret (pe_call (okD_cut_by (w := w) T) (hr.mono (by decide)) rfl T.m_cut_by T.F_cut_by.kp T.b_cut_by .nil pass0 (pa_cons (pv 0) (pa_cons (pe_listRg rfl rfl T.n_list (prg_1 rfl T.n_range (pv 1))) pa_nil))))), ?_⟩
    refine ⟨_, inferInstance, fun ds M R h => ?_⟩
    obtain ⟨row, n, rfl, hrow, hn, q⟩ := h
    walk_at "dw"
    refine ⟨RgOk.of_le (by decide) (by omega) (by decide) (by omega), ?_⟩
    rw [rg_nums]
    walk_at "dw"
    exact ⟨row, nums n, rfl, hrow, by rw [nums_length]; omega, q⟩
/-- the signs of a list, joined -/
theorem join_sgn {l : List Nat} {M : Mem} {R : QD} (hl : l.length ≤ 4000000) (q : R (.str (ofL l)) M) : rJoin1 (.str (Str.ofString "")) (.lst (l.map sgn)) M R := by
  refine ⟨_, l.map one, rfl, .inl (by rw [List.map_map]; rfl), ?_, ?_⟩
  · rw [List.map_map, List.length_map]
    have e4 : l.map ((fun x => x.length) ∘ one) = l.map fun _ => 1 := rfl
    rw [e4, sum_ones]
    show _ + _ * 0 ≤ _
    omega
  · rw [U.join_one1]
    exact q
def spIsLength : DC := fun ds M R => ∃ n : Nat, ds = [.int n] ∧ n ≤ 500 ∧ R (.bl true) M
theorem okD_is_length (T : Tx K mg) : FnOk P w K mg base L2.CX0 lv_is_length T.f_is_length T.d_is_length p_is_length (lift (spIsLength)) := by
  refine fnD T.F_is_length sc_is_length (fun ds M R h => ?_) (fun cdv A outer s H E hr => ?_)
  · first | (obtain ⟨rfl, _⟩ := h; rfl) | (obtain ⟨_, rfl, _⟩ := h; rfl) | (obtain ⟨_, _, rfl, _⟩ := h; rfl) | (obtain ⟨_, _, _, rfl, _⟩ := h; rfl) | (obtain ⟨_, _, _, _, rfl, _⟩ := h; rfl) | (obtain ⟨_, _, _, _, _, rfl, _⟩ := h; rfl) | (obtain ⟨_, _, _, _, _, _, rfl, _⟩ := h; rfl) | (obtain ⟨_, _, _, _, _, _, _, rfl, _⟩ := h; rfl) | (obtain ⟨_, _, _, _, _, _, _, _, rfl, _⟩ := h; rfl)
  · have hr64 := hr.units
    have hc_Shortener := T.c_Shortener
    have hi_Shortener := T.i_Shortener
    have hn_Shortener_limit := T.na_Shortener_limit
    have hn_Shortener_head := T.na_Shortener_head
    have hn_Shortener_tail := T.na_Shortener_tail
    have hn_Shortener_mark := T.na_Shortener_mark
    have hn_Shortener_told := T.na_Shortener_told
    refine ⟨_, (pss_one (ps_ret (pe_and (pe_call (okD_is_integer (w := w) T) (hr.mono (by decide)) rfl T.m_is_integer T.F_is_integer.kp T.b_is_integer .nil pass0 (pa_cons (pv 0) pa_nil)) (pe_one (pe_chain op_le op_le pe_int (pv 0) (C8.pe_gc rfl T.k_MOST_LENGTH)))))), ?_⟩
    refine ⟨_, inferInstance, fun ds M R h => ?_⟩
    obtain ⟨n, rfl, hn, q⟩ := h
    walk_at "dw"
    refine ⟨_, rfl, _, .int _, by decide, true, rfl, ?_⟩
    walk_at "dw"
    rw [decide_eq_true (show (n : Int) ≤ 500 by omega)]
    exact q
end
end G
namespace G
open PySem PySem.Spec PyProof.Rows L2 U V
section
variable {P : Program} {w : World} {K : PySem.W.Frag} {mg : Str → Option Value} {base : Heap}
theorem okD__law_ladle (T : Tx K mg) : FnOk P w K mg base L2.CX0 lv__law_ladle T.f__law_ladle T.d__law_ladle p__law_ladle (lift spDrawD) := fn_weak (ok__law_ladle T) draw_lift
def spOneOfD : DC := fun ds M R => ∃ p v, ds = [potD p, v] ∧ ((∃ xs, isSq M v xs ∧ 0 < xs.length ∧ xs.length < 1000000 ∧ ∀ x ∈ xs, R x M) ∨ (∃ z, v = .str z ∧ 0 < z.length ∧ z.length < 1000000 ∧ ∀ c ∈ cd z, R (.str (one c)) M))
theorem okD__law_one_of (T : Tx K mg) : FnOk P w K mg base L2.CX0 lv__law_one_of T.f__law_one_of T.d__law_one_of p__law_one_of (lift (spOneOfD)) := by
  refine fnD T.F__law_one_of sc__law_one_of (fun ds M R h => ?_) (fun cdv A outer s H E hr => ?_)
  · first | (obtain ⟨rfl, _⟩ := h; rfl) | (obtain ⟨_, rfl, _⟩ := h; rfl) | (obtain ⟨_, _, rfl, _⟩ := h; rfl) | (obtain ⟨_, _, _, rfl, _⟩ := h; rfl) | (obtain ⟨_, _, _, _, rfl, _⟩ := h; rfl) | (obtain ⟨_, _, _, _, _, rfl, _⟩ := h; rfl) | (obtain ⟨_, _, _, _, _, _, rfl, _⟩ := h; rfl) | (obtain ⟨_, _, _, _, _, _, _, rfl, _⟩ := h; rfl) | (obtain ⟨_, _, _, _, _, _, _, _, rfl, _⟩ := h; rfl)
  · have hr64 := hr.units
    have hc_Shortener := T.c_Shortener
    have hi_Shortener := T.i_Shortener
    have hn_Shortener_limit := T.na_Shortener_limit
    have hn_Shortener_head := T.na_Shortener_head
    have hn_Shortener_tail := T.na_Shortener_tail
    have hn_Shortener_mark := T.na_Shortener_mark
    have hn_Shortener_told := T.na_Shortener_told
    refine ⟨_, (pss_one (ps_ret (pe_ix (ix_K (K := K) rfl) (pv 1) (pe_call (okD__law_ladle (w := w) T) (hr.mono (by decide)) rfl T.m__law_ladle T.F__law_ladle.kp T.b__law_ladle .nil pass0 (pa_cons (pv 0) (pa_cons (pe_callB (call_lenK (K := K) rfl) (by rfl) T.n_len (by decide +kernel) (pa_cons (pv 1) pa_nil)) pa_nil))) (fun _ _ => rfl)))), ?_⟩
    refine ⟨_, inferInstance, fun ds M R h => ?_⟩
    obtain ⟨p, v, rfl, h⟩ := h
    walk_at "dw"
    rcases h with ⟨xs, hx, h0, h1, q⟩ | ⟨z, rfl, h0, h1, q⟩
    · have hl : ∀ R' : Int → Prop, R' xs.length → V.lenR M v R' := by
        intro R' hR
        rcases hx with rfl | hx | ⟨a, rfl, hx⟩
        · exact ⟨xs, .inl rfl, hR⟩
        · rcases tf_cases hx with rfl | rfl <;> exact ⟨xs, .inr (.inl rfl), hR⟩
        · exact ⟨xs, .inr (.inr ⟨a, rfl, hx⟩), hR⟩
      refine ⟨v, rfl, hl _ ?_⟩
      walk_at "dw"
      refine ⟨p, _, rfl, ⟨by omega, by omega⟩, fun r r0 r1 => ?_⟩
      obtain ⟨j, rfl⟩ := Int.eq_ofNat_of_zero_le r0
      have hj : j < xs.length := by omega
      have e : atI xs ((j : Nat) : Int) = some xs[j] := atI_nat (at_some hj)
      have q2 := q _ (List.getElem_mem hj)
      rcases hx with rfl | hx | ⟨a, rfl, hx⟩
      · exact ⟨xs, _, .inl rfl, e, q2⟩
      · rcases tf_cases hx with rfl | rfl <;> exact ⟨xs, _, .inr (.inl rfl), e, q2⟩
      · exact ⟨xs, _, .inr (.inr ⟨a, rfl, hx⟩), e, q2⟩
    · refine V.x_lenS ⟨by rw [sizeLine_eq]; omega, ?_⟩
      walk_at "dw"
      refine ⟨p, _, rfl, ⟨by omega, by omega⟩, fun r r0 r1 => ?_⟩
      obtain ⟨j, rfl⟩ := Int.eq_ofNat_of_zero_le r0
      have hj : j < (cd z).length := by rw [cd_len]; omega
      exact ⟨_, by rw [sizeLine_eq]; omega, atI_nat (at_some hj), q _ (List.getElem_mem hj)⟩
/-- one of a list of texts, of numbers -/
theorem one_lst {p : Addr} {xs : List D} {M : Mem} {R : QD} (q : ∀ x ∈ xs, R x M) (h0 : 0 < xs.length := by decide) (h1 : xs.length < 1000000 := by decide) : spOneOfD [potD p, .lst xs] M R := ⟨p, _, rfl, .inl ⟨xs, .inl rfl, h0, h1, q⟩⟩
theorem draw_D {p : Addr} {n : Int} {M : Mem} {R : QD} (hn : 0 < n) (hn2 : n < 1073741824) (q : ∀ k : Nat, (k : Int) < n → R (.int k) M) : spDrawD [potD p, .int n] M R := ⟨p, n, rfl, ⟨hn, hn2⟩, fun r r0 r1 => by
  obtain ⟨j, rfl⟩ := Int.eq_ofNat_of_zero_le r0
  exact q j r1⟩
/-- what the law asks of its judge -/
def spRight : Sp := fun vs H Q _ => ∃ p : Addr, vs = [.ref p] ∧ Pot H p ∧ ∀ H', Same H H' → Q (.bl true) H'
end
end G
namespace G
open PySem PySem.Spec PyProof.Rows L2 U V
section
variable {P : Program} {w : World} {K : PySem.W.Frag} {mg : Str → Option Value} {base : Heap}
def optN : Option Nat → D
  | none => .non
  | some i => .int i
def spWithNext : DC := fun ds M R => ∃ (n : Nat) (p : Option Nat), ds = [.int n, optN p] ∧ n ≤ 1000 ∧ R (.str (withF n p)) M
theorem okD_with_next (T : Tx K mg) : FnOk P w K mg base L2.CX0 lv_with_next T.f_with_next T.d_with_next p_with_next (lift (spWithNext)) := by
  refine fnD T.F_with_next sc_with_next (fun ds M R h => ?_) (fun cdv A outer s H E hr => ?_)
  · first | (obtain ⟨rfl, _⟩ := h; rfl) | (obtain ⟨_, rfl, _⟩ := h; rfl) | (obtain ⟨_, _, rfl, _⟩ := h; rfl) | (obtain ⟨_, _, _, rfl, _⟩ := h; rfl) | (obtain ⟨_, _, _, _, rfl, _⟩ := h; rfl) | (obtain ⟨_, _, _, _, _, rfl, _⟩ := h; rfl) | (obtain ⟨_, _, _, _, _, _, rfl, _⟩ := h; rfl) | (obtain ⟨_, _, _, _, _, _, _, rfl, _⟩ := h; rfl) | (obtain ⟨_, _, _, _, _, _, _, _, rfl, _⟩ := h; rfl)
  · have hr64 := hr.units
    have hc_Shortener := T.c_Shortener
    have hi_Shortener := T.i_Shortener
    have hn_Shortener_limit := T.na_Shortener_limit
    have hn_Shortener_head := T.na_Shortener_head
    have hn_Shortener_tail := T.na_Shortener_tail
    have hn_Shortener_mark := T.na_Shortener_mark
    have hn_Shortener_told := T.na_Shortener_told
    refine ⟨_, (pss_one (ps_ret (pe_joinK (K := K) rfl pe_str (pe_lc (own := [("here", 2)]) rfl sc_with_next.nd (pi_range1 rfl T.n_range (pa_cons (pv 0) pa_nil)) (blkOk_by (N := ["length", "place", "here"]) (sc := L2.defScope s_with_next) (by decide +kernel)) (fun _ _ _ _ _ => (pg_name (i := 2) sc_with_next.nd rfl (by first | exact Or.inl rfl | exact Or.inr rfl))) (fun _ _ _ _ _ => pts_nil) (fun _ _ _ _ _ => (pe_ifExp (pt_cmpR (op_eqA (K := K) rfl hr64) (pv 2) (pv 1) (nomark _)) (C8.pe_gc rfl T.k_NEXT) (C8.pe_gc rfl T.k_LEAST))))))), ?_⟩
    refine ⟨_, inferInstance, fun ds M R h => ?_⟩
    obtain ⟨n, p, rfl, hn, q⟩ := h
    walk_at "dw"
    refine ⟨by omega, by omega, trivial, by rw [rgD_len]; omega, ?_⟩
    have o1 : Str.ofString "0" = one 48 := by decide +kernel
    have o2 : Str.ofString "." = one 46 := by decide +kernel
    refine gather_all (f := fun d => match d with | .int i => sgn (wCode p i.toNat) | d => d) ?_ trivial ?_
    · intro x hx Ky hy
      rw [rg_nums] at hx
      obtain ⟨i, hi, rfl⟩ := List.mem_map.mp hx
      walk_at "dw"
      cases p with
      | none =>
        show rEq1 (.int (i : Int)) .non M _
        walk_at "dw"
        rw [o2]
        exact hy
      | some j =>
        show rEq1 (.int (i : Int)) (.int (j : Int)) M _
        walk_at "dw"
        have hy2 : Ky (sgn (wCode (some j) i)) M := hy
        refine x_ite _ (fun c => ?_) (fun c => ?_)
        · walk_at "dw"
          rw [o1]
          rw [show wCode (some j) i = 48 from if_pos (by rw [show j = i by omega])] at hy2
          exact hy2
        · walk_at "dw"
          rw [o2]
          rw [show wCode (some j) i = 46 from if_neg (fun e => c (by rw [Option.some.inj e]))] at hy2
          exact hy2
    · rw [rg_nums]
      have e : (nums n).map (fun d => match d with | .int i => sgn (wCode p i.toNat) | d => d) = ((List.range n).map (wCode p)).map sgn := by
        unfold nums
        rw [List.map_map, List.map_map]
        refine List.map_congr_left fun i _ => ?_
        show sgn (wCode p ((i : Int).toNat)) = _
        rw [Int.toNat_natCast]
        rfl
      rw [e]
      exact join_sgn (by rw [List.length_map, List.length_range]; omega) q
theorem pl_ty {n : Nat} {d : D} {M : Mem} (h : isPl n d) : (∃ i : Nat, d = .int i ∧ i < n ∧ TyD K M d (.type "int")) ∨ ∃ c, d = sgn c ∧ c ∈ U.signs ∧ TyD K M d (.type "str") := by
  rcases h with ⟨i, hi, rfl⟩ | ⟨c, hc, rfl⟩
  · exact .inl ⟨i, rfl, hi, .int _⟩
  · exact .inr ⟨c, rfl, hc, .str _⟩
/-- isinstance(d, str) of a part of a plan -/
theorem isi_pl {n : Nat} {d : D} {M : Mem} {R : QD} (h : isPl n d) (q1 : ∀ i : Nat, d = .int i → i < n → R (.bl false) M) (q2 : ∀ c, d = sgn c → c ∈ U.signs → R (.bl true) M) : rIsi1 K [d, .ty "str"] M R := by
  rcases pl_ty (K := K) (M := M) h with ⟨i, e, hi, ty⟩ | ⟨c, e, hc, ty⟩
  · exact ⟨_, _, ty, kit_ty (by decide +kernel), q1 i e hi⟩
  · exact ⟨_, _, ty, kit_ty (by decide +kernel), q2 c e hc⟩
/-- != of two parts of plans -/
theorem pl_ne {n m : Nat} {a b : D} {M : Mem} {R : QD} (h : isPl n a) (k : isPl m b) (q : R (.bl (!D.eqb a b)) M) : rNe1 a b M R := by
  have ok : ∀ {n : Nat} {d : D}, isPl n d → EqOk d := fun {n d} h => by
    rcases h with ⟨i, _, rfl⟩ | ⟨c, hc, rfl⟩
    · exact ⟨.int i, by rw [pl, D.py], by simp [SeqAt.shaped, PyData.canLay0, PyData.depth]⟩
    · exact EqOk.of (okP.sgn hc) (by decide)
  rcases h with ⟨i, hi, rfl⟩ | ⟨c, hc, rfl⟩ <;> rcases k with ⟨j, hj, rfl⟩ | ⟨c2, hc2, rfl⟩
  · show R (.bl (!decide ((i : Int) = (j : Int)))) M
    have e : D.eqb (pl i) (pl j) = decide ((i : Int) = (j : Int)) := by
      rw [Bool.eq_iff_iff]
      simp [pl, D.eqb]
    rw [← e]
    exact q
  · exact q
  · exact q
  · show R (.bl (!decide (one c = one c2))) M
    have e : D.eqb (sgn c) (sgn c2) = decide (one c = one c2) := by
      rw [Bool.eq_iff_iff]
      simp [sgn, D.eqb]
    rw [← e]
    exact q
def isI : D → Bool
  | .int _ => true
  | _ => false
def spPartingPlace : DC := fun ds M R => ∃ (n : Nat) (a b : D), ds = [a, b] ∧ isPl n a ∧ isPl n b ∧ R (optN (ppF a b)) M
theorem okD_parting_place (T : Tx K mg) : FnOk P w K mg base L2.CX0 lv_parting_place T.f_parting_place T.d_parting_place p_parting_place (lift (spPartingPlace)) := by
  refine fnD T.F_parting_place sc_parting_place (fun ds M R h => ?_) (fun cdv A outer s H E hr => ?_)
  · first | (obtain ⟨rfl, _⟩ := h; rfl) | (obtain ⟨_, rfl, _⟩ := h; rfl) | (obtain ⟨_, _, rfl, _⟩ := h; rfl) | (obtain ⟨_, _, _, rfl, _⟩ := h; rfl) | (obtain ⟨_, _, _, _, rfl, _⟩ := h; rfl) | (obtain ⟨_, _, _, _, _, rfl, _⟩ := h; rfl) | (obtain ⟨_, _, _, _, _, _, rfl, _⟩ := h; rfl) | (obtain ⟨_, _, _, _, _, _, _, rfl, _⟩ := h; rfl) | (obtain ⟨_, _, _, _, _, _, _, _, rfl, _⟩ := h; rfl)
  · have hr64 := hr.units
    have hc_Shortener := T.c_Shortener
    have hi_Shortener := T.i_Shortener
    have hn_Shortener_limit := T.na_Shortener_limit
    have hn_Shortener_head := T.na_Shortener_head
    have hn_Shortener_tail := T.na_Shortener_tail
    have hn_Shortener_mark := T.na_Shortener_mark
    have hn_Shortener_told := T.na_Shortener_told
    refine ⟨_, (pss_cons (ps_setLc (i := 2) (own := [("each", 4)]) rfl sc_parting_place.nd rfl rfl (sw_true rfl rfl rfl (by decide +kernel)) (pi_tupK (K := K) rfl (pe_tup (pa_cons (pv 0) (pa_cons (pv 1) pa_nil)))) (blkOk_by (N := ["one", "other", "places", "marks", "each"]) (sc := L2.defScope s_parting_place) (by decide +kernel)) (fun _ _ _ _ _ => (pg_name (i := 4) sc_parting_place.nd rfl (by first | exact Or.inl rfl | exact Or.inr rfl))) (fun _ _ _ _ _ => (pts_one (pt_not (pt_val (pe_callB (call_isiK (K := K) rfl) (by rfl) T.n_isinstance (by decide +kernel) (pa_cons (pv 4) (pa_cons (pe_bt "str" rfl T.n_str (by decide +kernel)) pa_nil))))))) (fun _ _ _ _ _ => (pv 4)))
        (pss_cons (ps_setLc (i := 3) (own := [("each", 4)]) rfl sc_parting_place.nd rfl rfl (sw_true rfl rfl rfl (by decide +kernel)) (pi_tupK (K := K) rfl (pe_tup (pa_cons (pv 0) (pa_cons (pv 1) pa_nil)))) (blkOk_by (N := ["one", "other", "places", "marks", "each"]) (sc := L2.defScope s_parting_place) (by decide +kernel)) (fun _ _ _ _ _ => (pg_name (i := 4) sc_parting_place.nd rfl (by first | exact Or.inl rfl | exact Or.inr rfl))) (fun _ _ _ _ _ => (pts_one (pt_val (pe_callB (call_isiK (K := K) rfl) (by rfl) T.n_isinstance (by decide +kernel) (pa_cons (pv 4) (pa_cons (pe_bt "str" rfl T.n_str (by decide +kernel)) pa_nil)))))) (fun _ _ _ _ _ => (pv 4)))
        (pss_cons (ps_if (PW.pt (pw_or (pt_cmpR (op_eqA (K := K) rfl hr64) (pe_callB (call_lenK (K := K) rfl) (by rfl) T.n_len (by decide +kernel) (pa_cons (pv 2) pa_nil)) pe_int (nomark _)) (pw_or1 (PW.pt (pw_and (pt_cmpR (op_eqA (K := K) rfl hr64) (pe_callB (call_lenK (K := K) rfl) (by rfl) T.n_len (by decide +kernel) (pa_cons (pv 3) pa_nil)) pe_int (nomark _)) (pw_and1 (pt_cmpR (op_neA (K := K) rfl hr64) (pe_ix (ix_K (K := K) rfl) (pv 3) pe_int (fun _ _ => rfl)) (C8.pe_gc rfl T.k_LEAST) (nomark _)))))))) (pss_one (ps_ret pe_non)) pss_nil)
        (pss_one (ps_ret (pe_callB (cr_maxK (K := K) rfl rfl) (by rfl) T.n_max (by decide +kernel) (pa_cons (pv 2) pa_nil))))))), ?_⟩
    refine ⟨_, inferInstance, fun ds M R h => ?_⟩
    obtain ⟨n, a, b, rfl, ha, hb, q⟩ := h
    walk_at "dw"
    have hab : ∀ x ∈ [a, b], isPl n x := fun x hx => by
      simp only [List.mem_cons, List.not_mem_nil, or_false] at hx
      rcases hx with rfl | rfl
      · exact ha
      · exact hb
    refine ⟨Nat.le_of_ble_eq_true rfl, gather_map (f := id) (p := isI) ?_ trivial ?_⟩
    · intro x hx Ky Kn h1 h2
      walk_at "dw"
      refine isi_pl (hab x hx) (fun i e _ => ?_) (fun c e _ => ?_)
      · subst e
        walk_at "dw"
        exact h1 rfl
      · subst e
        walk_at "dw"
        exact h2 rfl
    walk_at "dw"
    refine ⟨Nat.le_of_ble_eq_true rfl, gather_map (f := id) (p := fun d => !isI d) ?_ trivial ?_⟩
    · intro x hx Ky Kn h1 h2
      walk_at "dw"
      refine isi_pl (hab x hx) (fun i e _ => ?_) (fun c e _ => ?_)
      · subst e
        walk_at "dw"
        exact h2 rfl
      · subst e
        walk_at "dw"
        exact h1 rfl
    rw [List.map_id, List.map_id]
    rcases ha with ⟨i, hi, rfl⟩ | ⟨c, hc, rfl⟩ <;> rcases hb with ⟨j, hj, rfl⟩ | ⟨c2, hc2, rfl⟩
    · rw [show [pl i, pl j].filter isI = [pl i, pl j] from rfl, show [pl i, pl j].filter (fun d => !isI d) = [] from rfl]
      walk_at "dw"
      refine ⟨_, [(i : Int), (j : Int)], rfl, .inl rfl, Nat.zero_lt_succ _, fun m hm hmax => ?_⟩
      have e : m = ((max i j : Nat) : Int) := by
        simp only [List.mem_cons, List.not_mem_nil, or_false] at hm
        have h1 := hmax i List.mem_cons_self
        have h2 := hmax j (List.mem_cons_of_mem _ List.mem_cons_self)
        rcases hm with rfl | rfl <;> omega
      rw [e]
      have e2 : ppF (pl i) (pl j) = some (max i j) := by
        show some (max ((i : Int).toNat) ((j : Int).toNat)) = _
        rw [Int.toNat_natCast, Int.toNat_natCast]
      rw [e2] at q
      exact q
    · rw [show [pl i, sgn c2].filter isI = [pl i] from rfl, show [pl i, sgn c2].filter (fun d => !isI d) = [sgn c2] from rfl]
      rw [ppF_is] at q
      walk_at "dw"
      show rNe1 (.str (one c2)) _ M _
      walk_at "dw"
      refine x_iten (fun c => ?_) (fun c => ?_)
      · walk_at "dw"
        rw [if_neg c] at q
        exact q
      · walk_at "dw"
        rw [if_pos c] at q
        refine ⟨_, [(i : Int)], rfl, .inl rfl, Nat.zero_lt_succ _, fun m hm hmax => ?_⟩
        rw [List.mem_singleton.mp hm]
        exact q
    · rw [show [sgn c, pl j].filter isI = [pl j] from rfl, show [sgn c, pl j].filter (fun d => !isI d) = [sgn c] from rfl]
      rw [ppF_si] at q
      walk_at "dw"
      show rNe1 (.str (one c)) _ M _
      walk_at "dw"
      refine x_iten (fun c => ?_) (fun c => ?_)
      · walk_at "dw"
        rw [if_neg c] at q
        exact q
      · walk_at "dw"
        rw [if_pos c] at q
        refine ⟨_, [(j : Int)], rfl, .inl rfl, Nat.zero_lt_succ _, fun m hm hmax => ?_⟩
        rw [List.mem_singleton.mp hm]
        exact q
    · rw [show [sgn c, sgn c2].filter isI = [] from rfl, show [sgn c, sgn c2].filter (fun d => !isI d) = [sgn c, sgn c2] from rfl]
      walk_at "dw"
      exact q
def spPartingText : DC := fun ds M R => ∃ (n : Nat) (p q : List D), ds = [.int n, .lst p, .lst q] ∧ n ≤ 1000 ∧ (∀ d ∈ p, isPl n d) ∧ (∀ d ∈ q, isPl n d) ∧ p.length ≤ 4000000 ∧ q.length ≤ 4000000 ∧ R (optD (ptF n p q)) M
theorem okD_parting_text (T : Tx K mg) : FnOk P w K mg base L2.CX0 lv_parting_text T.f_parting_text T.d_parting_text p_parting_text (lift (spPartingText)) := by
  refine fnD T.F_parting_text sc_parting_text (fun ds M R h => ?_) (fun cdv A outer s H E hr => ?_)
  · first | (obtain ⟨rfl, _⟩ := h; rfl) | (obtain ⟨_, rfl, _⟩ := h; rfl) | (obtain ⟨_, _, rfl, _⟩ := h; rfl) | (obtain ⟨_, _, _, rfl, _⟩ := h; rfl) | (obtain ⟨_, _, _, _, rfl, _⟩ := h; rfl) | (obtain ⟨_, _, _, _, _, rfl, _⟩ := h; rfl) | (obtain ⟨_, _, _, _, _, _, rfl, _⟩ := h; rfl) | (obtain ⟨_, _, _, _, _, _, _, rfl, _⟩ := h; rfl) | (obtain ⟨_, _, _, _, _, _, _, _, rfl, _⟩ := h; rfl)
  · have hr64 := hr.units
    have hc_Shortener := T.c_Shortener
    have hi_Shortener := T.i_Shortener
    have hn_Shortener_limit := T.na_Shortener_limit
    have hn_Shortener_head := T.na_Shortener_head
    have hn_Shortener_tail := T.na_Shortener_tail
    have hn_Shortener_mark := T.na_Shortener_mark
    have hn_Shortener_told := T.na_Shortener_told
    refine ⟨_, (pss_cons (ps_if (pt_cmpR (op_neA (K := K) rfl hr64) (pe_callB (call_lenK (K := K) rfl) (by rfl) T.n_len (by decide +kernel) (pa_cons (pv 1) pa_nil)) (pe_callB (call_lenK (K := K) rfl) (by rfl) T.n_len (by decide +kernel) (pa_cons (pv 2) pa_nil)) (nomark _)) (pss_one (ps_ret (pe_call (okD_with_next (w := w) T) (hr.mono (by decide)) rfl T.m_with_next T.F_with_next.kp T.b_with_next .nil pass0 (pa_cons (pv 0) (pa_cons pe_non pa_nil))))) pss_nil)
        (pss_cons (ps_setLc (i := 3) (own := [("one", 5), ("other", 6)]) rfl sc_parting_text.nd rfl rfl (sw_true rfl rfl rfl (by decide +kernel)) (pi_zipK (K := K) rfl rfl T.n_zip (pa_cons (pv 1) (pa_cons (pv 2) pa_nil))) (blkOk_by (N := ["length", "plan", "other_plan", "unlike", "places", "one", "other"]) (sc := L2.defScope s_parting_text) (by decide +kernel)) (fun _ _ _ _ _ => (pg_tupK (K := K) (n := 2) rfl rfl (pgs_cons (pg_name (i := 5) sc_parting_text.nd rfl (by first | exact Or.inl rfl | exact Or.inr rfl)) (pgs_cons (pg_name (i := 6) sc_parting_text.nd rfl (by first | exact Or.inl rfl | exact Or.inr rfl)) pgs_nil)))) (fun _ _ _ _ _ => (pts_one (pt_cmpR (op_neA (K := K) rfl hr64) (pv 5) (pv 6) (nomark _)))) (fun _ _ _ _ _ => (pe_tup (pa_cons (pv 5) (pa_cons (pv 6) pa_nil)))))
        (pss_cons (ps_setLc (i := 4) (own := [("one", 5), ("other", 6)]) rfl sc_parting_text.nd rfl rfl (sw_true rfl rfl rfl (by decide +kernel)) (pi_listK (K := K) rfl (pv 3)) (blkOk_by (N := ["length", "plan", "other_plan", "unlike", "places", "one", "other"]) (sc := L2.defScope s_parting_text) (by decide +kernel)) (fun _ _ _ _ _ => (pg_tupK (K := K) (n := 2) rfl rfl (pgs_cons (pg_name (i := 5) sc_parting_text.nd rfl (by first | exact Or.inl rfl | exact Or.inr rfl)) (pgs_cons (pg_name (i := 6) sc_parting_text.nd rfl (by first | exact Or.inl rfl | exact Or.inr rfl)) pgs_nil)))) (fun _ _ _ _ _ => pts_nil) (fun _ _ _ _ _ => (pe_call (okD_parting_place (w := w) T) (hr.mono (by decide)) rfl T.m_parting_place T.F_parting_place.kp T.b_parting_place .nil pass0 (pa_cons (pv 5) (pa_cons (pv 6) pa_nil)))))
        (pss_cons (ps_if (pt_cmpR (op_eqA (K := K) rfl hr64) (pe_callB (call_lenK (K := K) rfl) (by rfl) T.n_len (by decide +kernel) (pa_cons (pv 4) pa_nil)) pe_int (nomark _)) (pss_one (ps_ret pe_non)) pss_nil)
        (pss_one (ps_ret (pe_call (okD_with_next (w := w) T) (hr.mono (by decide)) rfl T.m_with_next T.F_with_next.kp T.b_with_next .nil pass0 (pa_cons (pv 0) (pa_cons (pe_ifExp (pt_cmpR (op_inK (K := K) rfl) pe_non (pv 4) (by rfl)) pe_non (pe_callB (cr_maxK (K := K) rfl rfl) (by rfl) T.n_max (by decide +kernel) (pa_cons (pv 4) pa_nil))) pa_nil))))))))), ?_⟩
    refine ⟨_, inferInstance, fun ds M R h => ?_⟩
    obtain ⟨n, p, q, rfl, hn, hp, hq, hpl, hql, k⟩ := h
    unfold ptF at k
    walk_at "dw"
    refine x_iten (fun c => ?_) (fun c => ?_)
    · walk_at "dw"
      refine ⟨n, none, rfl, hn, ?_⟩
      rw [if_pos (fun e => c (by rw [e]))] at k
      exact k
    · rw [if_neg (fun z => z (by omega))] at k
      walk_at "dw"
      refine ⟨by rw [zipD_len]; omega, gather_map (f := id) (p := fun d => match d with | .tup [a, b] => !D.eqb a b | _ => false) ?_ trivial ?_⟩
      · intro x hx Ky Kn h1 h2
        obtain ⟨y, hy, rfl⟩ := List.mem_map.mp hx
        obtain ⟨k1, k2⟩ := zip_pl hp hq y hy
        walk_at "dw"
        refine pl_ne k1 k2 ?_
        cases e : D.eqb y.1 y.2 with
        | true =>
          walk_at "dw"
          exact h2 (by show (!D.eqb y.1 y.2) = false; rw [e]; rfl)
        | false =>
          walk_at "dw"
          exact h1 (by show (!D.eqb y.1 y.2) = true; rw [e]; rfl)
      have e1 : ((zipD p q).filter fun d => match d with | .tup [a, b] => !D.eqb a b | _ => false) = (unl p q).map fun x => D.tup [x.1, x.2] := by
        unfold zipD unl
        rw [List.filter_map]
        rfl
      rw [List.map_id, e1]
      walk_at "dw"
      refine ⟨by rw [List.length_map]; unfold unl; have := List.length_filter_le (fun x => !D.eqb x.1 x.2) (p.zip q); rw [List.length_zip] at this; omega, gather_all (f := fun d => match d with | .tup [a, b] => optN (ppF a b) | d => d) ?_ trivial ?_⟩
      · intro x hx Ky h1
        obtain ⟨y, hy, rfl⟩ := List.mem_map.mp hx
        obtain ⟨k1, k2⟩ := zip_pl hp hq y (List.mem_filter.mp hy).1
        walk_at "dw"
        exact ⟨n, _, _, rfl, k1, k2, h1⟩
      · have e2 : (((unl p q).map fun x => D.tup [x.1, x.2]).map fun d => match d with | .tup [a, b] => optN (ppF a b) | d => d) = (pps p q).map optN := by
          unfold pps
          rw [List.map_map, List.map_map]
          rfl
        rw [e2]
        generalize pps p q = l at k
        walk_at "dw"
        rw [List.length_map]
        refine x_ite _ (fun c => ?_) (fun c => ?_)
        · walk_at "dw"
          rw [if_pos (by omega)] at k
          exact k
        · rw [if_neg (by omega)] at k
          walk_at "dw"
          refine ⟨_, .inl rfl, rfl, ?_, ?_⟩
          · rw [List.all_eq_true]
            intro x hx
            obtain ⟨o, _, rfl⟩ := List.mem_map.mp hx
            cases o <;> rfl
          · have e3 : ((l.map optN).any fun e => D.eqb e .non) = decide (none ∈ l) := by
              rw [Bool.eq_iff_iff, List.any_eq_true]
              constructor
              · rintro ⟨x, hx, h⟩
                obtain ⟨o, ho, rfl⟩ := List.mem_map.mp hx
                cases o with
                | none => exact decide_eq_true ho
                | some i => simp [optN, D.eqb] at h
              · intro h
                exact ⟨.non, List.mem_map.mpr ⟨none, of_decide_eq_true h, rfl⟩, by rw [D.eqb]⟩
            rw [e3]
            walk_at "dw"
            refine x_ite _ (fun c2 => ?_) (fun c2 => ?_)
            · walk_at "dw"
              rw [if_pos c2] at k
              exact ⟨n, none, rfl, hn, k⟩
            · rw [if_neg c2] at k
              walk_at "dw"
              have e4 : l.map optN = ((l.filterMap id).map fun i : Nat => (i : Int)).map D.int := by
                clear e3 k
                induction l with
                | nil => rfl
                | cons o l ih =>
                  have h1 : none ∉ l := fun h => c2 (List.mem_cons_of_mem _ h)
                  cases o with
                  | none => exact (c2 List.mem_cons_self).elim
                  | some i =>
                    by_cases z : l = []
                    · subst z; rfl
                    · have : l.length ≠ 0 := fun h => z (List.length_eq_zero_iff.mp h)
                      rw [List.map_cons, ih (by omega) h1]
                      rfl
              have e5 : (l.filterMap id).length = l.length := by
                have := congrArg List.length e4
                simpa using this.symm
              refine ⟨_, (l.filterMap id).map fun i : Nat => (i : Int), rfl, .inl (congrArg D.lst e4), by rw [List.length_map]; omega, fun m hm hmax => ?_⟩
              obtain ⟨i, hi, rfl⟩ := List.mem_map.mp hm
              have e6 : i = maxL (l.filterMap id) := by
                have h1 := le_maxL hi
                have h2 := hmax _ (List.mem_map.mpr ⟨_, maxL_mem (l := l.filterMap id) (fun h => by rw [h] at hi; cases hi), rfl⟩)
                omega
              rw [← e6] at k
              exact ⟨n, some i, rfl, hn, k⟩
def spFirstUnlike (C : Addr) : DC := fun ds M R => ∃ r q : List Sh, ds = [rowD C r, rowD C q] ∧ (∀ s ∈ r, s.ok) ∧ (∀ s ∈ q, s.ok) ∧ 1 ≤ r.length ∧ r.length ≤ 4 ∧ 1 ≤ q.length ∧ q.length ≤ 4 ∧ R (optD (fuF r q)) M
theorem planR_le {r : List Sh} (h : ∀ s ∈ r, s.ok) {n : Nat} (hn : n ≤ 600) : (planR r n).length ≤ 4000000 := by
  have := cutR_le sgn h (nums n) (n := 600) (by rw [nums_length]; omega) (by omega)
  exact Nat.le_trans this (by decide)
theorem nums_get {n i : Nat} {x : D} (h : (nums n)[i]? = some x) : i < n ∧ x = pl i := by
  unfold nums at h
  rw [List.getElem?_map] at h
  obtain ⟨k, hk, rfl⟩ := Option.map_eq_some_iff.mp h
  obtain ⟨h1, h2⟩ := List.getElem?_eq_some_iff.mp hk
  rw [List.length_range] at h1
  rw [List.getElem_range] at h2
  exact ⟨h1, by rw [h2]⟩
theorem okD_first_unlike (T : Tx K mg) : FnOk P w K mg base L2.CX0 lv_first_unlike T.f_first_unlike T.d_first_unlike p_first_unlike (lift (spFirstUnlike T.C_Shortener)) := by
  refine fnD T.F_first_unlike sc_first_unlike (fun ds M R h => ?_) (fun cdv A outer s H E hr => ?_)
  · first | (obtain ⟨rfl, _⟩ := h; rfl) | (obtain ⟨_, rfl, _⟩ := h; rfl) | (obtain ⟨_, _, rfl, _⟩ := h; rfl) | (obtain ⟨_, _, _, rfl, _⟩ := h; rfl) | (obtain ⟨_, _, _, _, rfl, _⟩ := h; rfl) | (obtain ⟨_, _, _, _, _, rfl, _⟩ := h; rfl) | (obtain ⟨_, _, _, _, _, _, rfl, _⟩ := h; rfl) | (obtain ⟨_, _, _, _, _, _, _, rfl, _⟩ := h; rfl) | (obtain ⟨_, _, _, _, _, _, _, _, rfl, _⟩ := h; rfl)
  · have hr64 := hr.units
    have hc_Shortener := T.c_Shortener
    have hi_Shortener := T.i_Shortener
    have hn_Shortener_limit := T.na_Shortener_limit
    have hn_Shortener_head := T.na_Shortener_head
    have hn_Shortener_tail := T.na_Shortener_tail
    have hn_Shortener_mark := T.na_Shortener_mark
    have hn_Shortener_told := T.na_Shortener_told
    refine ⟨_, (pss_cons (ps_expr (pe_call (okD_check_row (w := w) T) (hr.mono (by decide)) rfl T.m_check_row T.F_check_row.kp T.b_check_row .nil pass0 (pa_cons (pv 0) pa_nil)))
        (pss_cons (ps_expr (pe_call (okD_check_row (w := w) T) (hr.mono (by decide)) rfl T.m_check_row T.F_check_row.kp T.b_check_row .nil pass0 (pa_cons (pv 1) pa_nil)))
        (pss_cons (ps_for PassesOwn.never rfl (pi_range1 rfl T.n_range (pa_cons (pe_op op_addU (C8.pe_gc rfl T.k_ENOUGH) pe_int) pa_nil)) (pg_name (i := 2) sc_first_unlike.nd rfl (by first | exact Or.inl rfl | exact Or.inr rfl)) (pss_cons (ps_set (i := 3) sc_first_unlike.nd rfl (by first | exact Or.inl rfl | exact Or.inr rfl) (pe_call (okD_parting_text (w := w) T) (hr.mono (by decide)) rfl T.m_parting_text T.F_parting_text.kp T.b_parting_text .nil pass0 (pa_cons (pv 2) (pa_cons (pe_call (okD_plan_of (w := w) T) (hr.mono (by decide)) rfl T.m_plan_of T.F_plan_of.kp T.b_plan_of .nil pass0 (pa_cons (pv 0) (pa_cons (pv 2) pa_nil))) (pa_cons (pe_call (okD_plan_of (w := w) T) (hr.mono (by decide)) rfl T.m_plan_of T.F_plan_of.kp T.b_plan_of .nil pass0 (pa_cons (pv 1) (pa_cons (pv 2) pa_nil))) pa_nil)))))
        (pss_one (ps_if (pt_cmpR op_notN1 (pv 3) pe_non (nomark _)) (pss_one (ps_ret (pv 3))) pss_nil))))
        (pss_one (ps_ret pe_non))))), ?_⟩
    refine ⟨_, inferInstance, fun ds M R h => ?_⟩
    obtain ⟨r, q, rfl, hr, hq, r1, r4, q1, q4, k⟩ := h
    walk_at "dw"
    refine ⟨r, rfl, r1, r4, ?_⟩
    walk_at "dw"
    refine ⟨q, rfl, q1, q4, ?_⟩
    walk_at "dw"
    refine ⟨by decide, by decide, trivial, ?_⟩
    refine loop_inv (fun i δ M' => M' = M ∧ (∀ j, j < i → ptF j (planR r j) (planR q j) = none) ∧ ∃ u v, δ = [some (rowD T.C_Shortener r), some (rowD T.C_Shortener q), u, v]) ⟨rfl, fun j h => by omega, _, _, rfl⟩ ?_ ?_
    · rintro i x δ M' Kc hx ⟨rfl, hj, u, v, rfl⟩ hk
      rw [show (81 + 1 : Int) = ((82 : Nat) : Int) by rfl, rg_nums] at hx
      obtain ⟨hi, rfl⟩ := nums_get hx
      unfold pl
      walk_at "dw"
      refine ⟨r, i, rfl, hr, by omega, ?_⟩
      walk_at "dw"
      refine ⟨q, i, rfl, hq, by omega, ?_⟩
      walk_at "dw"
      refine ⟨i, planR r i, planR q i, rfl, by omega, plan_pl hr i, plan_pl hq i, planR_le hr (by omega), planR_le hq (by omega), ?_⟩
      walk_at "dw"
      cases e : ptF i (planR r i) (planR q i) with
      | none =>
        simp only [optD, V.isNon, Bool.not_true, Bool.not_false, if_true, if_false, Bool.false_eq_true]
        walk_at "dw"
        refine (hk _ _ trivial ⟨rfl, fun j h => ?_, _, _, rfl⟩).2
        by_cases c : j = i
        · rw [c]; exact e
        · exact hj j (by omega)
      | some z =>
        simp only [optD, V.isNon, Bool.not_true, Bool.not_false, if_true, if_false, Bool.false_eq_true]
        walk_at "dw"
        have : fuF r q = some z := find_some hi e hj
        rw [this] at k
        exact k
    · rintro δ M' ⟨rfl, hj, u, v, rfl⟩
      walk_at "dw"
      have : fuF r q = none := find_none hj
      rw [this] at k
      exact k
def spFirstUnstable (C : Addr) : DC := fun ds M R => ∃ r : List Sh, ds = [rowD C r] ∧ (∀ s ∈ r, s.ok) ∧ 1 ≤ r.length ∧ r.length ≤ 4 ∧ R (optD (fsF r)) M
theorem plan2_pl {r : List Sh} (h : ∀ s ∈ r, s.ok) (n : Nat) : ∀ d ∈ cutR sgn r (planR r n), isPl n d :=
  cutR_all (P := isPl n) (fun s hs c hc => .inr ⟨c, (okText_iff.mp (h s hs).2.2.2).2 c hc, rfl⟩) (plan_pl h n)
theorem plan2_le {r : List Sh} (h : ∀ s ∈ r, s.ok) {n : Nat} (hn : n ≤ 600) : (cutR sgn r (planR r n)).length ≤ 4000000 := cutR_le sgn h _ (planR_le h hn) (by omega)
theorem okD_first_unstable (T : Tx K mg) : FnOk P w K mg base L2.CX0 lv_first_unstable T.f_first_unstable T.d_first_unstable p_first_unstable (lift (spFirstUnstable T.C_Shortener)) := by
  refine fnD T.F_first_unstable sc_first_unstable (fun ds M R h => ?_) (fun cdv A outer s H E hr => ?_)
  · first | (obtain ⟨rfl, _⟩ := h; rfl) | (obtain ⟨_, rfl, _⟩ := h; rfl) | (obtain ⟨_, _, rfl, _⟩ := h; rfl) | (obtain ⟨_, _, _, rfl, _⟩ := h; rfl) | (obtain ⟨_, _, _, _, rfl, _⟩ := h; rfl) | (obtain ⟨_, _, _, _, _, rfl, _⟩ := h; rfl) | (obtain ⟨_, _, _, _, _, _, rfl, _⟩ := h; rfl) | (obtain ⟨_, _, _, _, _, _, _, rfl, _⟩ := h; rfl) | (obtain ⟨_, _, _, _, _, _, _, _, rfl, _⟩ := h; rfl)
  · have hr64 := hr.units
    have hc_Shortener := T.c_Shortener
    have hi_Shortener := T.i_Shortener
    have hn_Shortener_limit := T.na_Shortener_limit
    have hn_Shortener_head := T.na_Shortener_head
    have hn_Shortener_tail := T.na_Shortener_tail
    have hn_Shortener_mark := T.na_Shortener_mark
    have hn_Shortener_told := T.na_Shortener_told
    refine ⟨_, (pss_cons (ps_expr (pe_call (okD_check_row (w := w) T) (hr.mono (by decide)) rfl T.m_check_row T.F_check_row.kp T.b_check_row .nil pass0 (pa_cons (pv 0) pa_nil)))
        (pss_cons (ps_for PassesOwn.never rfl (pi_range1 rfl T.n_range (pa_cons (pe_op op_addU (C8.pe_gc rfl T.k_ENOUGH) pe_int) pa_nil)) (pg_name (i := 1) sc_first_unstable.nd rfl (by first | exact Or.inl rfl | exact Or.inr rfl)) (pss_cons (ps_set (i := 2) sc_first_unstable.nd rfl (by first | exact Or.inl rfl | exact Or.inr rfl) (pe_call (okD_plan_of (w := w) T) (hr.mono (by decide)) rfl T.m_plan_of T.F_plan_of.kp T.b_plan_of .nil pass0 (pa_cons (pv 0) (pa_cons (pv 1) pa_nil))))
        (pss_cons (ps_set (i := 3) sc_first_unstable.nd rfl (by first | exact Or.inl rfl | exact Or.inr rfl) (pe_call (okD_parting_text (w := w) T) (hr.mono (by decide)) rfl T.m_parting_text T.F_parting_text.kp T.b_parting_text .nil pass0 (pa_cons (pv 1) (pa_cons (pv 2) (pa_cons (pe_call (okD_cut_by (w := w) T) (hr.mono (by decide)) rfl T.m_cut_by T.F_cut_by.kp T.b_cut_by .nil pass0 (pa_cons (pv 0) (pa_cons (pv 2) pa_nil))) pa_nil)))))
        (pss_one (ps_if (pt_cmpR op_notN1 (pv 3) pe_non (nomark _)) (pss_one (ps_ret (pv 3))) pss_nil)))))
        (pss_one (ps_ret pe_non)))), ?_⟩
    refine ⟨_, inferInstance, fun ds M R h => ?_⟩
    obtain ⟨r, rfl, hr, r1, r4, k⟩ := h
    walk_at "dw"
    refine ⟨r, rfl, r1, r4, ?_⟩
    walk_at "dw"
    refine ⟨by decide, by decide, trivial, ?_⟩
    refine loop_inv (fun i δ M' => M' = M ∧ (∀ j, j < i → ptF j (planR r j) (cutR sgn r (planR r j)) = none) ∧ ∃ u v w, δ = [some (rowD T.C_Shortener r), u, v, w]) ⟨rfl, fun j h => by omega, _, _, _, rfl⟩ ?_ ?_
    · rintro i x δ M' Kc hx ⟨rfl, hj, u, v, w, rfl⟩ hk
      rw [show (81 + 1 : Int) = ((82 : Nat) : Int) by rfl, rg_nums] at hx
      obtain ⟨hi, rfl⟩ := nums_get hx
      unfold pl
      walk_at "dw"
      refine ⟨r, i, rfl, hr, by omega, ?_⟩
      walk_at "dw"
      refine ⟨r, planR r i, rfl, hr, planR_le hr (by omega), ?_⟩
      walk_at "dw"
      refine ⟨i, planR r i, cutR sgn r (planR r i), rfl, by omega, plan_pl hr i, plan2_pl hr i, planR_le hr (by omega), plan2_le hr (by omega), ?_⟩
      walk_at "dw"
      cases e : ptF i (planR r i) (cutR sgn r (planR r i)) with
      | none =>
        simp only [optD, V.isNon, Bool.not_true, Bool.not_false, if_true, if_false, Bool.false_eq_true]
        walk_at "dw"
        refine (hk _ _ trivial ⟨rfl, fun j h => ?_, _, _, _, rfl⟩).2
        by_cases c : j = i
        · rw [c]; exact e
        · exact hj j (by omega)
      | some z =>
        simp only [optD, V.isNon, Bool.not_true, Bool.not_false, if_true, if_false, Bool.false_eq_true]
        walk_at "dw"
        have : fsF r = some z := find_some hi e hj
        rw [this] at k
        exact k
    · rintro δ M' ⟨rfl, hj, u, v, w, rfl⟩
      walk_at "dw"
      have : fsF r = none := find_none hj
      rw [this] at k
      exact k
end
end G
namespace G
open PySem PySem.Spec PyProof.Rows L2 U V
def viewD (C : Addr) (v : List Sh × Str) : D := .tup [rowD C v.1, .str v.2]
def viewsD (C : Addr) (vs : List (List Sh × Str)) : D := .tup (vs.map (viewD C))
section
variable {P : Program} {w : World} {K : PySem.W.Frag} {mg : Str → Option Value} {base : Heap}
def knownR (k : Option (List (Nat × Nat))) (M : Mem) (R : QD) : Prop := match k with
  | none => R .non M
  | some k => ∀ a, M a = none → R (.ptr a) (mset M a (.dic (kdic k)))
def spKnown (C : Addr) : DC := fun ds M R => ∃ vs n, ds = [viewsD C vs, .int (n : Nat)] ∧ n ≤ 600 ∧ vs.length ≤ 4 ∧ (∀ v ∈ vs, okView v) ∧ knownR (knownF vs n) M R
theorem okD_known_signs (T : Tx K mg) : FnOk P w K mg base L2.CX0 lv_known_signs T.f_known_signs T.d_known_signs p_known_signs (lift (spKnown T.C_Shortener)) := by
  refine fnDW T.F_known_signs sc_known_signs (fun ds M R h => ?_) (fun cdv A outer s H E hr => ?_)
  · first | (obtain ⟨rfl, _⟩ := h; rfl) | (obtain ⟨_, rfl, _⟩ := h; rfl) | (obtain ⟨_, _, rfl, _⟩ := h; rfl) | (obtain ⟨_, _, _, rfl, _⟩ := h; rfl) | (obtain ⟨_, _, _, _, rfl, _⟩ := h; rfl) | (obtain ⟨_, _, _, _, _, rfl, _⟩ := h; rfl) | (obtain ⟨_, _, _, _, _, _, rfl, _⟩ := h; rfl) | (obtain ⟨_, _, _, _, _, _, _, rfl, _⟩ := h; rfl) | (obtain ⟨_, _, _, _, _, _, _, _, rfl, _⟩ := h; rfl)
  · have hr64 := hr.units
    have hc_Shortener := T.c_Shortener
    have hi_Shortener := T.i_Shortener
    have hn_Shortener_limit := T.na_Shortener_limit
    have hn_Shortener_head := T.na_Shortener_head
    have hn_Shortener_tail := T.na_Shortener_tail
    have hn_Shortener_mark := T.na_Shortener_mark
    have hn_Shortener_told := T.na_Shortener_told
    refine ⟨_, (pss_cons (ps_set (i := 2) sc_known_signs.nd rfl (by first | exact Or.inl rfl | exact Or.inr rfl) pe_dnewK)
        (pss_cons (ps_for PassesOwn.never rfl (pi_tupK (K := K) rfl (pv 0)) (pg_tupK (K := K) (n := 2) rfl rfl (pgs_cons (pg_name (i := 3) sc_known_signs.nd rfl (by first | exact Or.inl rfl | exact Or.inr rfl)) (pgs_cons (pg_name (i := 4) sc_known_signs.nd rfl (by first | exact Or.inl rfl | exact Or.inr rfl)) pgs_nil))) (pss_cons (ps_set (i := 5) sc_known_signs.nd rfl (by first | exact Or.inl rfl | exact Or.inr rfl) (pe_call (okD_plan_of (w := w) T) (hr.mono (by decide)) rfl T.m_plan_of T.F_plan_of.kp T.b_plan_of .nil pass0 (pa_cons (pv 3) (pa_cons (pv 1) pa_nil))))
        (pss_cons (ps_if (pt_cmpR (op_neA (K := K) rfl hr64) (pe_callB (call_lenK (K := K) rfl) (by rfl) T.n_len (by decide +kernel) (pa_cons (pv 5) pa_nil)) (pe_callB (call_lenK (K := K) rfl) (by rfl) T.n_len (by decide +kernel) (pa_cons (pv 4) pa_nil)) (nomark _)) (pss_one (ps_ret pe_non)) pss_nil)
        (pss_one (ps_for PassesOwn.never rfl (pi_zipLS (K := K) rfl rfl T.n_zip (pa_cons (pv 5) (pa_cons (pv 4) pa_nil))) (pg_tupK (K := K) (n := 2) rfl rfl (pgs_cons (pg_name (i := 6) sc_known_signs.nd rfl (by first | exact Or.inl rfl | exact Or.inr rfl)) (pgs_cons (pg_name (i := 7) sc_known_signs.nd rfl (by first | exact Or.inl rfl | exact Or.inr rfl)) pgs_nil))) (pss_one (ps_if (pt_val (pe_callB (call_isiK (K := K) rfl) (by rfl) T.n_isinstance (by decide +kernel) (pa_cons (pv 6) (pa_cons (pe_bt "str" rfl T.n_str (by decide +kernel)) pa_nil)))) (pss_one (ps_if (pt_cmpR (op_neA (K := K) rfl hr64) (pv 6) (pv 7) (nomark _)) (pss_one (ps_ret pe_non)) pss_nil)) (pss_one (ps_if (pt_cmpR (op_neA (K := K) rfl hr64) (pe_dsetd (pv 2) (pv 6) (pv 7) ⟨rfl, rfl, rfl, rfl⟩) (pv 7) (nomark _)) (pss_one (ps_ret pe_non)) pss_nil)))))))))
        (pss_one (ps_ret (pv 2))))), ?_⟩
    refine ⟨_, inferInstance, fun ds M R h => ?_⟩
    obtain ⟨vs, n, rfl, hn, v4, hv, q⟩ := h
    unfold viewsD
    walk_at "dw"
    refine V.x_dnew fun a ha => ?_
    walk_at "dw"
    refine loop_inv (fun i δ M' => ∃ k, M' = mset M a (.dic (kdic k)) ∧ (vs.take i).foldlM (kview n) [] = some k ∧ ∃ u1 u2 u3 u4 u5, δ = [some (viewsD T.C_Shortener vs), some (.int n), some (.ptr a), u1, u2, u3, u4, u5]) ⟨[], rfl, rfl, _, _, _, _, _, rfl⟩ ?_ ?_
    · rintro i x δ M' Kc hx ⟨k, rfl, hk0, u1, u2, u3, u4, u5, rfl⟩ hk
      rw [List.getElem?_map] at hx
      obtain ⟨⟨r, z⟩, hi, rfl⟩ := Option.map_eq_some_iff.mp hx
      obtain ⟨hr, r1, r4, oz⟩ : (∀ s ∈ r, s.ok) ∧ 1 ≤ r.length ∧ r.length ≤ 4 ∧ okText 200 z = true := hv _ (List.mem_of_getElem? hi)
      have step := fold_take (f := kview n) (b := []) hi
      rw [hk0] at step
      have step : (vs.take (i + 1)).foldlM (kview n) [] = kview n k (r, z) := step
      have hz := (okText_iff.mp oz).1
      unfold viewD
      walk_at "dw"
      refine ⟨r, n, rfl, hr, hn, ?_⟩
      walk_at "dw"
      refine V.x_lenS ⟨by rw [sizeLine_eq]; show z.length ≤ _; omega, ?_⟩
      walk_at "dw"
      refine x_iten (fun c => ?_) (fun c => ?_)
      · rw [kview, if_neg (fun e => c (congrArg Nat.cast (e.trans (cd_len _))))] at step
        have e := fold_none (f := kview n) (b := []) (i + 1) step
        rw [knownF, e] at q
        walk_at "dw"
        exact ⟨M, mle_set ha, q⟩
      have el : (planR r n).length = (cd z).length := by
        have c : ((planR r n).length : Int) = (z.length : Nat) := c
        rw [cd_len]; omega
      rw [kview, if_pos el] at step
      walk_at "dw"
      refine V.x_iZS ?_
      walk_at "dw"
      refine ⟨_, z, rfl, trivial, ?_⟩
      have lk : k.length ≤ 1000 := by
        have := known_len (vs := vs.take i) (fun x hx => hv x (List.mem_of_mem_take hx)) hk0
        have h4 : (vs.take i).length ≤ 4 := by rw [List.length_take]; omega
        simp only [List.length_nil] at this
        omega
      refine loop_inv (fun j δ M' => ∃ k', M' = mset M a (.dic (kdic k')) ∧ (((planR r n).zip (cd z)).take j).foldlM kstep k = some k' ∧ ∃ v1 v2, δ = [some (viewsD T.C_Shortener vs), some (.int n), some (.ptr a), some (rowD T.C_Shortener r), some (.str z), some (.lst (planR r n)), v1, v2]) ⟨k, rfl, rfl, _, _, rfl⟩ ?_ ?_
      · rintro j x δ M' Kd hx ⟨k', rfl, hk1, v1, v2, rfl⟩ hk2
        obtain ⟨d, c, rfl, hj, hd⟩ := zip_at hx
        have hj : ((planR r n).zip (cd z))[j]? = some (d, c) := hj
        have st2 := fold_take (f := kstep) (b := k) hj
        rw [hk1] at st2
        have st2 : (((planR r n).zip (cd z)).take (j + 1)).foldlM kstep k = kstep k' (d, c) := st2
        have lk' : k'.length ≤ 2000 := by
          have := fold_len hk1
          rw [List.length_take, List.length_zip, cd_len] at this
          omega
        have bad : kstep k' (d, c) = none → ∃ M0, Mle M0 (mset M a (.dic (kdic k'))) ∧ R .non M0 := fun e => by
          rw [e] at st2
          have e2 := fold_none (f := kstep) (b := k) (j + 1) st2
          rw [e2] at step
          have e3 := fold_none (f := kview n) (b := []) (i + 1) step
          rw [knownF, e3] at q
          exact ⟨M, mle_set ha, q⟩
        rcases plan_pl hr n d hd with ⟨p, hp, rfl⟩ | ⟨c', _, rfl⟩
        · unfold pl
          walk_at "dw"
          refine ⟨_, false, .int _, kit_ty (by decide +kernel), ?_⟩
          walk_at "dw"
          refine V.x_dsetd ?_
          walk_at "dw"
          refine ⟨a, rfl, ⟨_, mset_same⟩, ?_⟩
          walk_at "dw"
          refine ⟨kdic k', .inl (p : Int), mset_same, rfl, by unfold kdic; rw [List.length_map, sizeLine_eq]; omega, fun d hd => ?_, fun hd => ?_⟩
          · rw [kdic_val] at hd
            obtain ⟨c', e1, rfl⟩ := Option.map_eq_some_iff.mp hd
            unfold sgn
            walk_at "dw"
            refine x_iten (fun c => ?_) (fun c => ?_)
            · walk_at "dw"
              exact bad ((kstep_some e1).trans (if_neg fun e => c (by rw [e])))
            · walk_at "dw"
              exact (hk2 _ _ trivial ⟨k', rfl, st2.trans ((kstep_some e1).trans (if_pos (sgn_inj (congrArg D.str c)))), _, _, rfl⟩).2
          · rw [kdic_val] at hd
            have e1 : k'.lookup p = none := Option.map_eq_none_iff.mp hd
            rw [mset_set, kdic_put e1]
            unfold sgn
            walk_at "dw"
            rw [decide_eq_true rfl]
            walk_at "dw"
            exact (hk2 _ _ trivial ⟨k' ++ [(p, c)], rfl, st2.trans (kstep_none e1), _, _, rfl⟩).2
        · unfold sgn
          walk_at "dw"
          refine ⟨_, true, .str _, kit_ty (by decide +kernel), ?_⟩
          walk_at "dw"
          refine x_iten (fun c => ?_) (fun c => ?_)
          · walk_at "dw"
            exact bad (if_neg c)
          · walk_at "dw"
            exact (hk2 _ _ trivial ⟨k', rfl, st2.trans (if_pos c), _, _, rfl⟩).2
      · rintro δ M' ⟨k', rfl, hk1, v1, v2, rfl⟩
        have e : (zipD (planR r n) ((cd z).map sgn)).length = ((planR r n).zip (cd z)).length := by rw [zipD_len, List.length_map, List.length_zip]
        rw [show (cutR sgn r (nums n)) = planR r n from rfl, e, List.take_length] at hk1
        walk_at "dw"
        exact (hk _ _ trivial ⟨k', rfl, step.trans hk1, _, _, _, _, _, rfl⟩).2
    · rintro δ M' ⟨k, rfl, hk0, u1, u2, u3, u4, u5, rfl⟩
      walk_at "dw"
      rw [List.length_map, List.take_length] at hk0
      rw [knownF, hk0] at q
      exact ⟨_, mle_refl, q a ha⟩
end
end G
namespace G
open PySem PySem.Spec PyProof.Rows L2 U V
theorem told_E {s : Sh} (h : s.ok) : EqOk (toldD s) := by
  obtain ⟨a, b, c, d⟩ := h
  have u := (okPs.cons (okP.int (i := (s.limit : Int)) (by omega)) (okPs.cons (okP.int (i := (s.head : Int)) (by omega)) (okPs.cons (okP.int (i := (s.tail : Int)) (by omega)) (okPs.cons ((okP.text d).mono (by decide : (3 : Nat) ≤ 40) (Nat.le_refl _)) (okPs.nil 0 0))))).tuple
  exact EqOk.of u (by decide)
/-- a row as a claim tells it -/
def toldT (row : List Sh) : D := .tup (row.map toldD)
/-- claims -/
inductive Cl where
  | alike (r q : List Sh)
  | unlike (r q : List Sh)
  | stable (r : List Sh)
  | unstable (r : List Sh)
  | possible (r : List Sh) (y : Str) (n : Nat)
  | impossible (r : List Sh) (y : Str) (n : Nat)
  | confused (r : List Sh)
def Cl.D : Cl → D
  | .alike r q => .tup [.str (Str.ofString "alike"), toldT r, toldT q]
  | .unlike r q => .tup [.str (Str.ofString "unlike"), toldT r, toldT q]
  | .stable r => .tup [.str (Str.ofString "stable"), toldT r]
  | .unstable r => .tup [.str (Str.ofString "unstable"), toldT r]
  | .possible r y n => .tup [.str (Str.ofString "possible"), toldT r, .str y, .int (n : Nat)]
  | .impossible r y n => .tup [.str (Str.ofString "impossible"), toldT r, .str y, .int (n : Nat)]
  | .confused r => .tup [.str (Str.ofString "confused"), toldT r]
/-- papers -/
inductive Pa where
  | txt (z : Str)
  | two (y z : Str)
  | nil
def Pa.D : Pa → D
  | .txt z => .str z
  | .two y z => .tup [.str y, .str z]
  | .nil => .tup []
def Pa.small : Pa → Prop
  | .txt z => z.length ≤ 4000
  | .two y z => y.length ≤ 4000 ∧ z.length ≤ 4000
  | .nil => True
def Pa.isNil : Pa → Bool
  | .nil => true
  | _ => false
def Pa.text (n : Nat) (f : Str → Bool) : Pa → Bool
  | .txt z => okText n z && f z
  | _ => false
def Pa.pair (f : Str → Str → Bool) : Pa → Bool
  | .two y z => (okText 200 y && okText 200 z) && f y z
  | _ => false
/-- a row that a claim may tell -/
def rowOk (r : List Sh) : Prop := (∀ s ∈ r, s.ok) ∧ 1 ≤ r.length ∧ r.length ≤ 4
def Cl.ok : Cl → Prop
  | .alike r q => rowOk r ∧ rowOk q
  | .unlike r q => rowOk r ∧ rowOk q
  | .stable r => rowOk r
  | .unstable r => rowOk r
  | .possible r y n => rowOk r ∧ okText 200 y = true ∧ n ≤ 500
  | .impossible r y n => rowOk r ∧ okText 200 y = true ∧ n ≤ 500
  | .confused r => rowOk r
/-- what holds answers -/
def holdsF : Cl → Pa → Bool
  | .alike r q, p => p.isNil && (fuF r q).isNone
  | .unlike r q, p => p.text 200 fun z => !decide (showS r z = showS q z)
  | .stable r, p => p.isNil && (fsF r).isNone
  | .unstable r, p => p.text 200 fun z => !decide (showS r (showS r z) = showS r z)
  | .possible r y n, p => p.text 500 fun z => decide (z.length = n) && decide (showS r z = y)
  | .impossible r y n, p => p.isNil && (knownF [(r, y)] n).isNone
  | .confused r, p => p.pair fun y z => !decide (y = z) && decide (showS r y = showS r z)
section
variable {P : Program} {w : World} {K : PySem.W.Frag} {mg : Str → Option Value} {base : Heap}
def spEqAny (C : Addr) : DC := fun ds M R => ∃ s y, ds = [shD C s, y] ∧ s.ok ∧ ((y = .non ∧ R (.bl false) M) ∨ ((∃ z, y = .str z) ∧ R (.bl false) M) ∨ ((∃ ys, y = .tup ys) ∧ R (.bl false) M) ∨ ∃ t : Sh, y = shD C t ∧ t.ok ∧ R (.bl (D.eqb (toldD s) (toldD t))) M)
theorem okD_Shortener___eq__ (T : Tx K mg) : FnOk P w K mg base L2.CX0 lv_Shortener___eq__ T.f_Shortener___eq__ T.d_Shortener___eq__ p_Shortener___eq__ (lift (spEqAny T.C_Shortener)) := by
  refine fnD T.F_Shortener___eq__ sc_Shortener___eq__ (fun ds M R h => ?_) (fun cdv A outer s H E hr => ?_)
  · first | (obtain ⟨rfl, _⟩ := h; rfl) | (obtain ⟨_, rfl, _⟩ := h; rfl) | (obtain ⟨_, _, rfl, _⟩ := h; rfl) | (obtain ⟨_, _, _, rfl, _⟩ := h; rfl) | (obtain ⟨_, _, _, _, rfl, _⟩ := h; rfl) | (obtain ⟨_, _, _, _, _, rfl, _⟩ := h; rfl) | (obtain ⟨_, _, _, _, _, _, rfl, _⟩ := h; rfl) | (obtain ⟨_, _, _, _, _, _, _, rfl, _⟩ := h; rfl) | (obtain ⟨_, _, _, _, _, _, _, _, rfl, _⟩ := h; rfl)
  · have hr64 := hr.units
    have hc_Shortener := T.c_Shortener
    have hi_Shortener := T.i_Shortener
    have hn_Shortener_limit := T.na_Shortener_limit
    have hn_Shortener_head := T.na_Shortener_head
    have hn_Shortener_tail := T.na_Shortener_tail
    have hn_Shortener_mark := T.na_Shortener_mark
    have hn_Shortener_told := T.na_Shortener_told
    refine ⟨_, (pss_one (ps_ret (pe_and (pe_callB (call_isiK (K := K) rfl) (by rfl) T.n_isinstance (by decide +kernel) (pa_cons (pv 1) (pa_cons (pe_gref rfl T.m_Shortener) pa_nil))) (pe_one (pe_cmpR (op_eqA (K := K) rfl hr64) (pe_fldK (K := K) rfl (pv 0)) (pe_fldK (K := K) rfl (pv 1)) (nomark _)))))), ?_⟩
    refine ⟨_, inferInstance, fun ds M R h => ?_⟩
    obtain ⟨s, y, rfl, hs, h⟩ := h
    walk_at "dw"
    rcases h with ⟨rfl, q⟩ | ⟨⟨z, rfl⟩, q⟩ | ⟨⟨ys, rfl⟩, q⟩ | ⟨t, rfl, ht, q⟩
    · refine ⟨_, false, .non, T.kn_Shortener, ?_⟩
      walk_at "dw"
      exact q
    · refine ⟨_, false, .str _, T.ks_Shortener, ?_⟩
      walk_at "dw"
      exact q
    · refine ⟨_, false, .tup _, by first | exact T.kt_Shortener | exact T.kt_Shortener "tuple" (by decide), ?_⟩
      walk_at "dw"
      exact q
    · refine ⟨_, true, .ins (.inl rfl) T.i_Shortener, T.i_Shortener.me, ?_⟩
      unfold shD
      walk_at "dw"
      exact ⟨told_E hs, told_E ht, q⟩
def spShIn (C : Addr) : DC := fun ds M R => ∃ s : Sh, ds = [toldD s] ∧ s.ok ∧ R (shD C s) M
theorem okD_shortener_in (T : Tx K mg) : FnOk P w K mg base L2.CX0 lv_shortener_in T.f_shortener_in T.d_shortener_in p_shortener_in (lift (spShIn T.C_Shortener)) := by
  refine fnD T.F_shortener_in sc_shortener_in (fun ds M R h => ?_) (fun cdv A outer s H E hr => ?_)
  · first | (obtain ⟨rfl, _⟩ := h; rfl) | (obtain ⟨_, rfl, _⟩ := h; rfl) | (obtain ⟨_, _, rfl, _⟩ := h; rfl) | (obtain ⟨_, _, _, rfl, _⟩ := h; rfl) | (obtain ⟨_, _, _, _, rfl, _⟩ := h; rfl) | (obtain ⟨_, _, _, _, _, rfl, _⟩ := h; rfl) | (obtain ⟨_, _, _, _, _, _, rfl, _⟩ := h; rfl) | (obtain ⟨_, _, _, _, _, _, _, rfl, _⟩ := h; rfl) | (obtain ⟨_, _, _, _, _, _, _, _, rfl, _⟩ := h; rfl)
  · have hr64 := hr.units
    have hc_Shortener := T.c_Shortener
    have hi_Shortener := T.i_Shortener
    have hn_Shortener_limit := T.na_Shortener_limit
    have hn_Shortener_head := T.na_Shortener_head
    have hn_Shortener_tail := T.na_Shortener_tail
    have hn_Shortener_mark := T.na_Shortener_mark
    have hn_Shortener_told := T.na_Shortener_told
    refine ⟨_, (pss_cons (ps_if (PW.pt (pw_or (pt_not (pt_val (pe_callB (call_isiK (K := K) rfl) (by rfl) T.n_isinstance (by decide +kernel) (pa_cons (pv 0) (pa_cons (pe_bt "tuple" rfl T.n_tuple (by decide +kernel)) pa_nil))))) (pw_or1 (pt_cmpR (op_neA (K := K) rfl hr64) (pe_callB (call_lenK (K := K) rfl) (by rfl) T.n_len (by decide +kernel) (pa_cons (pv 0) pa_nil)) pe_int (nomark _))))) (pss_one (ps_ret pe_non)) pss_nil)
        (pss_one (ps_try_thru0 (pss_one (ps_ret (pe_make T.M_Shortener (okF_Shortener___init__ T) (hr.mono (by decide)) rfl T.m_Shortener T.b_Shortener___init__ .nil pass0 (pa_cons (pe_ix (ix_K (K := K) rfl) (pv 0) pe_int (fun _ _ => rfl)) (pa_cons (pe_ix (ix_K (K := K) rfl) (pv 0) pe_int (fun _ _ => rfl)) (pa_cons (pe_ix (ix_K (K := K) rfl) (pv 0) pe_int (fun _ _ => rfl)) (pa_cons (pe_ix (ix_K (K := K) rfl) (pv 0) pe_int (fun _ _ => rfl)) pa_nil)))))))))), ?_⟩
    refine ⟨_, inferInstance, fun ds M R h => ?_⟩
    obtain ⟨s, rfl, hs, q⟩ := h
    unfold toldD
    walk_at "dw"
    refine ⟨_, true, .tup _, kit_ty (by decide +kernel), ?_⟩
    walk_at "dw"
    exact mk_sh hs q
theorem ask_none {C : Addr} {R : QD} {M : Mem} : ∀ {r : List Sh}, (∀ s ∈ r, s.ok) → R (.bl false) M → dAskAll C (spEqAny C) R (r.map (shD C)) M
  | [], _, q => q
  | s :: r, h, q => ⟨⟨_, _, rfl⟩, s, .non, rfl, h s List.mem_cons_self, .inl ⟨rfl, rfl, ask_none (fun t ht => h t (List.mem_cons_of_mem _ ht)) q⟩⟩
def spRowIn (C : Addr) : DC := fun ds M R => ∃ r : List Sh, ds = [toldT r] ∧ rowOk r ∧ R (rowD C r) M
theorem okD_row_in (T : Tx K mg) : FnOk P w K mg base L2.CX0 lv_row_in T.f_row_in T.d_row_in p_row_in (lift (spRowIn T.C_Shortener)) := by
  refine fnD T.F_row_in sc_row_in (fun ds M R h => ?_) (fun cdv A outer s H E hr => ?_)
  · first | (obtain ⟨rfl, _⟩ := h; rfl) | (obtain ⟨_, rfl, _⟩ := h; rfl) | (obtain ⟨_, _, rfl, _⟩ := h; rfl) | (obtain ⟨_, _, _, rfl, _⟩ := h; rfl) | (obtain ⟨_, _, _, _, rfl, _⟩ := h; rfl) | (obtain ⟨_, _, _, _, _, rfl, _⟩ := h; rfl) | (obtain ⟨_, _, _, _, _, _, rfl, _⟩ := h; rfl) | (obtain ⟨_, _, _, _, _, _, _, rfl, _⟩ := h; rfl) | (obtain ⟨_, _, _, _, _, _, _, _, rfl, _⟩ := h; rfl)
  · have hr64 := hr.units
    have hc_Shortener := T.c_Shortener
    have hi_Shortener := T.i_Shortener
    have hn_Shortener_limit := T.na_Shortener_limit
    have hn_Shortener_head := T.na_Shortener_head
    have hn_Shortener_tail := T.na_Shortener_tail
    have hn_Shortener_mark := T.na_Shortener_mark
    have hn_Shortener_told := T.na_Shortener_told
    refine ⟨_, (pss_cons (ps_if (PW.pt (pw_or (pt_not (pt_val (pe_callB (call_isiK (K := K) rfl) (by rfl) T.n_isinstance (by decide +kernel) (pa_cons (pv 0) (pa_cons (pe_bt "tuple" rfl T.n_tuple (by decide +kernel)) pa_nil))))) (pw_or1 (pt_not (pt_chain op_le op_le pe_int (pe_callB (call_lenK (K := K) rfl) (by rfl) T.n_len (by decide +kernel) (pa_cons (pv 0) pa_nil)) (C8.pe_gc rfl T.k_MOST_ROW)))))) (pss_one (ps_ret pe_non)) pss_nil)
        (pss_cons (ps_setLc (i := 1) (own := [("told", 2)]) rfl sc_row_in.nd rfl rfl (sw_true rfl rfl rfl (by decide +kernel)) (pi_tupK (K := K) rfl (pv 0)) (blkOk_by (N := ["value", "found", "told"]) (sc := L2.defScope s_row_in) (by decide +kernel)) (fun _ _ _ _ _ => (pg_name (i := 2) sc_row_in.nd rfl (by first | exact Or.inl rfl | exact Or.inr rfl))) (fun _ _ _ _ _ => pts_nil) (fun _ _ _ _ _ => (pe_call (okD_shortener_in (w := w) T) (hr.mono (by decide)) rfl T.m_shortener_in T.F_shortener_in.kp T.b_shortener_in .nil pass0 (pa_cons (pv 2) pa_nil))))
        (pss_one (ps_ret (pe_ifExp (pt_cmpR (op_inOwn T.b_Shortener___eq__ (okD_Shortener___eq__ T) (hr.mono (by decide)) T.no_Shortener T.t_Shortener___eq__.at_ T.t_Shortener___eq__.fn) pe_non (pv 1) (by rfl)) pe_non (pe_tupOfK (K := K) rfl rfl T.n_tuple (pv 1))))))), ?_⟩
    refine ⟨_, inferInstance, fun ds M R h => ?_⟩
    obtain ⟨r, rfl, ⟨hr1, h1, h4⟩, q⟩ := h
    unfold toldT
    walk_at "dw"
    refine ⟨_, true, .tup _, kit_ty (by decide +kernel), ?_⟩
    walk_at "dw"
    refine ⟨by rw [List.length_map]; omega, ?_⟩
    refine gather_inv (fun i acc M' => M' = M ∧ acc = (r.take i).map (shD T.C_Shortener)) ⟨rfl, rfl⟩ ?_ ?_
    · rintro i x acc M' Ky Kn hx ⟨rfl, rfl⟩ hy hn
      rw [List.getElem?_map] at hx
      obtain ⟨s, hs, rfl⟩ := Option.map_eq_some_iff.mp hx
      walk_at "dw"
      refine ⟨s, rfl, hr1 s (List.mem_of_getElem? hs), ?_⟩
      refine hy _ _ trivial ⟨rfl, ?_⟩
      rw [U.take_snoc hs, List.map_append]
      rfl
    · rintro acc M' ⟨rfl, rfl⟩
      rw [List.length_map, List.take_length]
      walk_at "dw"
      refine ⟨_, rfl, rfl, ask_none hr1 ?_⟩
      walk_at "dw"
      exact q
def spShownBy (C : Addr) : DC := fun ds M R => ∃ (row : List Sh) (z : Str), ds = [rowD C row, .str z] ∧ (∀ s ∈ row, s.ok) ∧ z.length ≤ 4000 ∧ R (.str (showS row z)) M
theorem okD_shown_by (T : Tx K mg) : FnOk P w K mg base L2.CX0 lv_shown_by T.f_shown_by T.d_shown_by p_shown_by (lift (spShownBy T.C_Shortener)) := by
  refine fnD T.F_shown_by sc_shown_by (fun ds M R h => ?_) (fun cdv A outer s H E hr => ?_)
  · first | (obtain ⟨rfl, _⟩ := h; rfl) | (obtain ⟨_, rfl, _⟩ := h; rfl) | (obtain ⟨_, _, rfl, _⟩ := h; rfl) | (obtain ⟨_, _, _, rfl, _⟩ := h; rfl) | (obtain ⟨_, _, _, _, rfl, _⟩ := h; rfl) | (obtain ⟨_, _, _, _, _, rfl, _⟩ := h; rfl) | (obtain ⟨_, _, _, _, _, _, rfl, _⟩ := h; rfl) | (obtain ⟨_, _, _, _, _, _, _, rfl, _⟩ := h; rfl) | (obtain ⟨_, _, _, _, _, _, _, _, rfl, _⟩ := h; rfl)
  · have hr64 := hr.units
    have hc_Shortener := T.c_Shortener
    have hi_Shortener := T.i_Shortener
    have hn_Shortener_limit := T.na_Shortener_limit
    have hn_Shortener_head := T.na_Shortener_head
    have hn_Shortener_tail := T.na_Shortener_tail
    have hn_Shortener_mark := T.na_Shortener_mark
    have hn_Shortener_told := T.na_Shortener_told
    refine ⟨_, (pss_one (ps_ret (pe_joinK (K := K) rfl pe_str (pe_call (okD_cut_by (w := w) T) (hr.mono (by decide)) rfl T.m_cut_by T.F_cut_by.kp T.b_cut_by .nil pass0 (pa_cons (pv 0) (pa_cons (pe_callTy (call_listK (K := K) rfl rfl) (by rfl) T.n_list (by decide +kernel) (pa_cons (pv 1) pa_nil)) pa_nil)))))), ?_⟩
    refine ⟨_, inferInstance, fun ds M R h => ?_⟩
    obtain ⟨row, z, rfl, hrow, hz, q⟩ := h
    walk_at "dw"
    refine V.x_listS ⟨by rw [sizeLine_eq]; omega, ?_⟩
    walk_at "dw"
    refine ⟨row, _, rfl, hrow, by rw [List.length_map, cd_len]; omega, ?_⟩
    rw [cutR_sgn]
    refine join_sgn ?_ q
    exact Nat.le_trans (cutR_le id hrow _ (n := 4000) (by rw [cd_len]; exact hz) (by omega)) (by decide)
def spNothing : DC := fun ds M R => ∃ p : Pa, ds = [p.D] ∧ R (.bl p.isNil) M
theorem okD_is_nothing (T : Tx K mg) : FnOk P w K mg base L2.CX0 lv_is_nothing T.f_is_nothing T.d_is_nothing p_is_nothing (lift (spNothing)) := by
  refine fnD T.F_is_nothing sc_is_nothing (fun ds M R h => ?_) (fun cdv A outer s H E hr => ?_)
  · first | (obtain ⟨rfl, _⟩ := h; rfl) | (obtain ⟨_, rfl, _⟩ := h; rfl) | (obtain ⟨_, _, rfl, _⟩ := h; rfl) | (obtain ⟨_, _, _, rfl, _⟩ := h; rfl) | (obtain ⟨_, _, _, _, rfl, _⟩ := h; rfl) | (obtain ⟨_, _, _, _, _, rfl, _⟩ := h; rfl) | (obtain ⟨_, _, _, _, _, _, rfl, _⟩ := h; rfl) | (obtain ⟨_, _, _, _, _, _, _, rfl, _⟩ := h; rfl) | (obtain ⟨_, _, _, _, _, _, _, _, rfl, _⟩ := h; rfl)
  · have hr64 := hr.units
    have hc_Shortener := T.c_Shortener
    have hi_Shortener := T.i_Shortener
    have hn_Shortener_limit := T.na_Shortener_limit
    have hn_Shortener_head := T.na_Shortener_head
    have hn_Shortener_tail := T.na_Shortener_tail
    have hn_Shortener_mark := T.na_Shortener_mark
    have hn_Shortener_told := T.na_Shortener_told
    refine ⟨_, (pss_one (ps_ret (pe_and (pe_callB (call_isiK (K := K) rfl) (by rfl) T.n_isinstance (by decide +kernel) (pa_cons (pv 0) (pa_cons (pe_bt "tuple" rfl T.n_tuple (by decide +kernel)) pa_nil))) (pe_one (pe_cmpR (op_eqA (K := K) rfl hr64) (pe_callB (call_lenK (K := K) rfl) (by rfl) T.n_len (by decide +kernel) (pa_cons (pv 0) pa_nil)) pe_int (nomark _)))))), ?_⟩
    refine ⟨_, inferInstance, fun ds M R h => ?_⟩
    obtain ⟨p, rfl, q⟩ := h
    cases p with
    | txt z =>
      unfold Pa.D
      walk_at "dw"
      refine ⟨_, false, .str _, kit_ty (by decide +kernel), ?_⟩
      walk_at "dw"
      exact q
    | two y z =>
      unfold Pa.D
      walk_at "dw"
      refine ⟨_, true, .tup _, kit_ty (by decide +kernel), ?_⟩
      walk_at "dw"
      exact q
    | nil =>
      unfold Pa.D
      walk_at "dw"
      refine ⟨_, true, .tup _, kit_ty (by decide +kernel), ?_⟩
      walk_at "dw"
      exact q
/-- is_text of a paper -/
theorem pa_text {p : Pa} {n : Nat} {K : PySem.W.Frag} {M : Mem} {R : QD} (hs : p.small) (h : (∀ z, p = .txt z → R (.bl (okText n z)) M) ∧ ((∀ z, p ≠ .txt z) → R (.bl false) M)) : spIsText K [p.D, .int (n : Nat)] M R := by
  cases p with
  | txt z => exact ⟨_, n, rfl, .inl ⟨z, rfl, Nat.le_trans hs (by decide), h.1 z rfl⟩⟩
  | two y z => exact ⟨_, n, rfl, .inr ⟨"tuple", .tup _, by decide +kernel, by decide, h.2 fun z e => by cases e⟩⟩
  | nil => exact ⟨_, n, rfl, .inr ⟨"tuple", .tup _, by decide +kernel, by decide, h.2 fun z e => by cases e⟩⟩
theorem unlike_ne : ¬ Str.ofString "unlike" = Str.ofString "alike" := by decide +kernel
theorem unstable_ne : ¬ Str.ofString "unstable" = Str.ofString "stable" := by decide +kernel
theorem possible_ne : ¬ Str.ofString "possible" = Str.ofString "impossible" := by decide +kernel
def spTwo (C : Addr) : DC := fun ds M R => ∃ (r q : List Sh) (k : Str) (p : Pa), ds = [.tup [.str k, toldT r, toldT q], p.D, rowD C r] ∧ rowOk r ∧ rowOk q ∧ p.small ∧ ((k = Str.ofString "alike" ∧ R (.bl (holdsF (.alike r q) p)) M) ∨ (k = Str.ofString "unlike" ∧ R (.bl (holdsF (.unlike r q) p)) M))
theorem okD_holds_of_two (T : Tx K mg) : FnOk P w K mg base L2.CX0 lv_holds_of_two T.f_holds_of_two T.d_holds_of_two p_holds_of_two (lift (spTwo T.C_Shortener)) := by
  refine fnD T.F_holds_of_two sc_holds_of_two (fun ds M R h => ?_) (fun cdv A outer s H E hr => ?_)
  · first | (obtain ⟨rfl, _⟩ := h; rfl) | (obtain ⟨_, rfl, _⟩ := h; rfl) | (obtain ⟨_, _, rfl, _⟩ := h; rfl) | (obtain ⟨_, _, _, rfl, _⟩ := h; rfl) | (obtain ⟨_, _, _, _, rfl, _⟩ := h; rfl) | (obtain ⟨_, _, _, _, _, rfl, _⟩ := h; rfl) | (obtain ⟨_, _, _, _, _, _, rfl, _⟩ := h; rfl) | (obtain ⟨_, _, _, _, _, _, _, rfl, _⟩ := h; rfl) | (obtain ⟨_, _, _, _, _, _, _, _, rfl, _⟩ := h; rfl)
  · have hr64 := hr.units
    have hc_Shortener := T.c_Shortener
    have hi_Shortener := T.i_Shortener
    have hn_Shortener_limit := T.na_Shortener_limit
    have hn_Shortener_head := T.na_Shortener_head
    have hn_Shortener_tail := T.na_Shortener_tail
    have hn_Shortener_mark := T.na_Shortener_mark
    have hn_Shortener_told := T.na_Shortener_told
    refine ⟨_, (pss_cons (ps_set (i := 3) sc_holds_of_two.nd rfl (by first | exact Or.inl rfl | exact Or.inr rfl) (pe_call (okD_row_in (w := w) T) (hr.mono (by decide)) rfl T.m_row_in T.F_row_in.kp T.b_row_in .nil pass0 (pa_cons (pe_ix (ix_K (K := K) rfl) (pv 0) pe_int (fun _ _ => rfl)) pa_nil)))
        (pss_cons (ps_if (pt_cmpR op_isN1 (pv 3) pe_non (nomark _)) (pss_one (ps_ret pe_bl)) pss_nil)
        (pss_cons (ps_if (pt_cmpR (op_eqA (K := K) rfl hr64) (pe_ix (ix_K (K := K) rfl) (pv 0) pe_int (fun _ _ => rfl)) pe_str (nomark _)) (pss_one (ps_ret (pe_and (pe_call (okD_is_nothing (w := w) T) (hr.mono (by decide)) rfl T.m_is_nothing T.F_is_nothing.kp T.b_is_nothing .nil pass0 (pa_cons (pv 1) pa_nil)) (pe_one (pe_cmpR op_isN1 (pe_call (okD_first_unlike (w := w) T) (hr.mono (by decide)) rfl T.m_first_unlike T.F_first_unlike.kp T.b_first_unlike .nil pass0 (pa_cons (pv 2) (pa_cons (pv 3) pa_nil))) pe_non (nomark _)))))) pss_nil)
        (pss_one (ps_ret (pe_and (pe_call (okD_is_text (w := w) T) (hr.mono (by decide)) rfl T.m_is_text T.F_is_text.kp T.b_is_text .nil pass0 (pa_cons (pv 1) (pa_cons (C8.pe_gc rfl T.k_MOST_TEXT) pa_nil))) (pe_one (pe_cmpR (op_neA (K := K) rfl hr64) (pe_call (okD_shown_by (w := w) T) (hr.mono (by decide)) rfl T.m_shown_by T.F_shown_by.kp T.b_shown_by .nil pass0 (pa_cons (pv 2) (pa_cons (pv 1) pa_nil))) (pe_call (okD_shown_by (w := w) T) (hr.mono (by decide)) rfl T.m_shown_by T.F_shown_by.kp T.b_shown_by .nil pass0 (pa_cons (pv 3) (pa_cons (pv 1) pa_nil))) (nomark _))))))))), ?_⟩
    refine ⟨_, inferInstance, fun ds M R h => ?_⟩
    obtain ⟨r, q, kd, p, rfl, hr1, hq1, hp, k⟩ := h
    walk_at "dw"
    refine ⟨q, rfl, hq1, ?_⟩
    walk_at "dw"
    rw [show V.isNon (rowD T.C_Shortener q) = false from rfl]
    walk_at "dw"
    rcases k with ⟨rfl, k⟩ | ⟨rfl, k⟩
    · rw [decide_eq_true rfl]
      walk_at "dw"
      refine ⟨p, rfl, ?_⟩
      have k : R (.bl (p.isNil && (fuF r q).isNone)) M := k
      cases c : p.isNil with
      | false =>
        rw [c] at k
        walk_at "dw"
        exact k
      | true =>
        rw [c] at k
        walk_at "dw"
        refine ⟨r, q, rfl, hr1.1, hq1.1, hr1.2.1, hr1.2.2, hq1.2.1, hq1.2.2, ?_⟩
        walk_at "dw"
        cases e : fuF r q with
        | none =>
          rw [e] at k
          exact k
        | some z =>
          rw [e] at k
          exact k
    · rw [decide_eq_false unlike_ne]
      walk_at "dw"
      have k : R (.bl (p.text 200 fun z => !decide (showS r z = showS q z))) M := k
      refine pa_text hp ⟨fun z e => ?_, fun ne => ?_⟩
      · subst e
        have k : R (.bl (okText 200 z && !decide (showS r z = showS q z))) M := k
        have zl : z.length ≤ 4000 := hp
        unfold Pa.D
        cases c : okText 200 z with
        | false =>
          rw [c] at k
          walk_at "dw"
          exact k
        | true =>
          rw [c] at k
          walk_at "dw"
          refine ⟨r, z, rfl, hr1.1, zl, ?_⟩
          walk_at "dw"
          refine ⟨q, z, rfl, hq1.1, zl, ?_⟩
          walk_at "dw"
          exact k
      · have e : p.text 200 (fun z => !decide (showS r z = showS q z)) = false := by
          cases p with
          | txt z => exact absurd rfl (ne z)
          | two y z => rfl
          | nil => rfl
        rw [e] at k
        walk_at "dw"
        exact k
def spOne (C : Addr) : DC := fun ds M R => ∃ (r : List Sh) (k : Str) (p : Pa), ds = [.tup [.str k, toldT r], p.D, rowD C r] ∧ rowOk r ∧ p.small ∧ ((k = Str.ofString "stable" ∧ R (.bl (holdsF (.stable r) p)) M) ∨ (k = Str.ofString "unstable" ∧ R (.bl (holdsF (.unstable r) p)) M))
theorem okD_holds_of_one (T : Tx K mg) : FnOk P w K mg base L2.CX0 lv_holds_of_one T.f_holds_of_one T.d_holds_of_one p_holds_of_one (lift (spOne T.C_Shortener)) := by
  refine fnD T.F_holds_of_one sc_holds_of_one (fun ds M R h => ?_) (fun cdv A outer s H E hr => ?_)
  · first | (obtain ⟨rfl, _⟩ := h; rfl) | (obtain ⟨_, rfl, _⟩ := h; rfl) | (obtain ⟨_, _, rfl, _⟩ := h; rfl) | (obtain ⟨_, _, _, rfl, _⟩ := h; rfl) | (obtain ⟨_, _, _, _, rfl, _⟩ := h; rfl) | (obtain ⟨_, _, _, _, _, rfl, _⟩ := h; rfl) | (obtain ⟨_, _, _, _, _, _, rfl, _⟩ := h; rfl) | (obtain ⟨_, _, _, _, _, _, _, rfl, _⟩ := h; rfl) | (obtain ⟨_, _, _, _, _, _, _, _, rfl, _⟩ := h; rfl)
  · have hr64 := hr.units
    have hc_Shortener := T.c_Shortener
    have hi_Shortener := T.i_Shortener
    have hn_Shortener_limit := T.na_Shortener_limit
    have hn_Shortener_head := T.na_Shortener_head
    have hn_Shortener_tail := T.na_Shortener_tail
    have hn_Shortener_mark := T.na_Shortener_mark
    have hn_Shortener_told := T.na_Shortener_told
    refine ⟨_, (pss_cons (ps_if (pt_cmpR (op_eqA (K := K) rfl hr64) (pe_ix (ix_K (K := K) rfl) (pv 0) pe_int (fun _ _ => rfl)) pe_str (nomark _)) (pss_one (ps_ret (pe_and (pe_call (okD_is_nothing (w := w) T) (hr.mono (by decide)) rfl T.m_is_nothing T.F_is_nothing.kp T.b_is_nothing .nil pass0 (pa_cons (pv 1) pa_nil)) (pe_one (pe_cmpR op_isN1 (pe_call (okD_first_unstable (w := w) T) (hr.mono (by decide)) rfl T.m_first_unstable T.F_first_unstable.kp T.b_first_unstable .nil pass0 (pa_cons (pv 2) pa_nil)) pe_non (nomark _)))))) pss_nil)
        (pss_cons (ps_if (pt_not (pt_val (pe_call (okD_is_text (w := w) T) (hr.mono (by decide)) rfl T.m_is_text T.F_is_text.kp T.b_is_text .nil pass0 (pa_cons (pv 1) (pa_cons (C8.pe_gc rfl T.k_MOST_TEXT) pa_nil))))) (pss_one (ps_ret pe_bl)) pss_nil)
        (pss_cons (ps_set (i := 3) sc_holds_of_one.nd rfl (by first | exact Or.inl rfl | exact Or.inr rfl) (pe_call (okD_shown_by (w := w) T) (hr.mono (by decide)) rfl T.m_shown_by T.F_shown_by.kp T.b_shown_by .nil pass0 (pa_cons (pv 2) (pa_cons (pv 1) pa_nil))))
        (pss_one (ps_ret (pe_cmpR (op_neA (K := K) rfl hr64) (pe_call (okD_shown_by (w := w) T) (hr.mono (by decide)) rfl T.m_shown_by T.F_shown_by.kp T.b_shown_by .nil pass0 (pa_cons (pv 2) (pa_cons (pv 3) pa_nil))) (pv 3) (nomark _))))))), ?_⟩
    refine ⟨_, inferInstance, fun ds M R h => ?_⟩
    obtain ⟨r, kd, p, rfl, hr1, hp, k⟩ := h
    walk_at "dw"
    rcases k with ⟨rfl, k⟩ | ⟨rfl, k⟩
    · rw [decide_eq_true rfl]
      walk_at "dw"
      refine ⟨p, rfl, ?_⟩
      have k : R (.bl (p.isNil && (fsF r).isNone)) M := k
      cases c : p.isNil with
      | false =>
        rw [c] at k
        walk_at "dw"
        exact k
      | true =>
        rw [c] at k
        walk_at "dw"
        refine ⟨r, rfl, hr1.1, hr1.2.1, hr1.2.2, ?_⟩
        walk_at "dw"
        cases e : fsF r with
        | none =>
          rw [e] at k
          exact k
        | some z =>
          rw [e] at k
          exact k
    · rw [decide_eq_false unstable_ne]
      walk_at "dw"
      have k : R (.bl (p.text 200 fun z => !decide (showS r (showS r z) = showS r z))) M := k
      refine pa_text hp ⟨fun z e => ?_, fun ne => ?_⟩
      · subst e
        have k : R (.bl (okText 200 z && !decide (showS r (showS r z) = showS r z))) M := k
        have zl : z.length ≤ 4000 := hp
        have sl : (showS r z).length ≤ 4000 := by
          rw [← cd_len]
          unfold showS
          rw [cd_ofL]
          exact cutR_le id hr1.1 _ (n := 4000) (by rw [cd_len]; exact zl) (by omega)
        unfold Pa.D
        cases c : okText 200 z with
        | false =>
          rw [c] at k
          walk_at "dw"
          exact k
        | true =>
          rw [c] at k
          walk_at "dw"
          refine ⟨r, z, rfl, hr1.1, zl, ?_⟩
          walk_at "dw"
          refine ⟨r, _, rfl, hr1.1, sl, ?_⟩
          walk_at "dw"
          exact k
      · have e : p.text 200 (fun z => !decide (showS r (showS r z) = showS r z)) = false := by
          cases p with
          | txt z => exact absurd rfl (ne z)
          | two y z => rfl
          | nil => rfl
        rw [e] at k
        walk_at "dw"
        exact k
def spPairH (C : Addr) : DC := fun ds M R => ∃ (r : List Sh) (p : Pa), ds = [p.D, rowD C r] ∧ rowOk r ∧ p.small ∧ R (.bl (holdsF (.confused r) p)) M
theorem okD_holds_of_pair (T : Tx K mg) : FnOk P w K mg base L2.CX0 lv_holds_of_pair T.f_holds_of_pair T.d_holds_of_pair p_holds_of_pair (lift (spPairH T.C_Shortener)) := by
  refine fnD T.F_holds_of_pair sc_holds_of_pair (fun ds M R h => ?_) (fun cdv A outer s H E hr => ?_)
  · first | (obtain ⟨rfl, _⟩ := h; rfl) | (obtain ⟨_, rfl, _⟩ := h; rfl) | (obtain ⟨_, _, rfl, _⟩ := h; rfl) | (obtain ⟨_, _, _, rfl, _⟩ := h; rfl) | (obtain ⟨_, _, _, _, rfl, _⟩ := h; rfl) | (obtain ⟨_, _, _, _, _, rfl, _⟩ := h; rfl) | (obtain ⟨_, _, _, _, _, _, rfl, _⟩ := h; rfl) | (obtain ⟨_, _, _, _, _, _, _, rfl, _⟩ := h; rfl) | (obtain ⟨_, _, _, _, _, _, _, _, rfl, _⟩ := h; rfl)
  · have hr64 := hr.units
    have hc_Shortener := T.c_Shortener
    have hi_Shortener := T.i_Shortener
    have hn_Shortener_limit := T.na_Shortener_limit
    have hn_Shortener_head := T.na_Shortener_head
    have hn_Shortener_tail := T.na_Shortener_tail
    have hn_Shortener_mark := T.na_Shortener_mark
    have hn_Shortener_told := T.na_Shortener_told
    refine ⟨_, (pss_cons (ps_if (PW.pt (pw_or (pt_not (pt_val (pe_callB (call_isiK (K := K) rfl) (by rfl) T.n_isinstance (by decide +kernel) (pa_cons (pv 0) (pa_cons (pe_bt "tuple" rfl T.n_tuple (by decide +kernel)) pa_nil))))) (pw_or (pt_cmpR (op_neA (K := K) rfl hr64) (pe_callB (call_lenK (K := K) rfl) (by rfl) T.n_len (by decide +kernel) (pa_cons (pv 0) pa_nil)) pe_int (nomark _)) (pw_or1 (pt_not (pt_val (pe_callB (cr_allK (K := K) rfl rfl) (by rfl) T.n_all (by decide +kernel) (pa_cons (pe_lc (own := [("text", 2)]) rfl sc_holds_of_pair.nd (pi_tupK (K := K) rfl (pv 0)) (blkOk_by (N := ["paper", "row", "text"]) (sc := L2.defScope s_holds_of_pair) (by decide +kernel)) (fun _ _ _ _ _ => (pg_name (i := 2) sc_holds_of_pair.nd rfl (by first | exact Or.inl rfl | exact Or.inr rfl))) (fun _ _ _ _ _ => pts_nil) (fun _ _ _ _ _ => (pe_call (okD_is_text (w := w) T) (hr.mono (by decide)) rfl T.m_is_text T.F_is_text.kp T.b_is_text .nil pass0 (pa_cons (pv 2) (pa_cons (C8.pe_gc rfl T.k_MOST_TEXT) pa_nil))))) pa_nil)))))))) (pss_one (ps_ret pe_bl)) pss_nil)
        (pss_one (ps_ret (pe_and (pe_cmpR (op_neA (K := K) rfl hr64) (pe_ix (ix_K (K := K) rfl) (pv 0) pe_int (fun _ _ => rfl)) (pe_ix (ix_K (K := K) rfl) (pv 0) pe_int (fun _ _ => rfl)) (nomark _)) (pe_one (pe_cmpR (op_eqA (K := K) rfl hr64) (pe_call (okD_shown_by (w := w) T) (hr.mono (by decide)) rfl T.m_shown_by T.F_shown_by.kp T.b_shown_by .nil pass0 (pa_cons (pv 1) (pa_cons (pe_ix (ix_K (K := K) rfl) (pv 0) pe_int (fun _ _ => rfl)) pa_nil))) (pe_call (okD_shown_by (w := w) T) (hr.mono (by decide)) rfl T.m_shown_by T.F_shown_by.kp T.b_shown_by .nil pass0 (pa_cons (pv 1) (pa_cons (pe_ix (ix_K (K := K) rfl) (pv 0) pe_int (fun _ _ => rfl)) pa_nil))) (nomark _))))))), ?_⟩
    refine ⟨_, inferInstance, fun ds M R h => ?_⟩
    obtain ⟨r, p, rfl, hr1, hp, k⟩ := h
    cases p with
    | txt z =>
      unfold Pa.D
      walk_at "dw"
      refine ⟨_, false, .str _, kit_ty (by decide +kernel), ?_⟩
      walk_at "dw"
      exact k
    | nil =>
      unfold Pa.D
      walk_at "dw"
      refine ⟨_, true, .tup _, kit_ty (by decide +kernel), ?_⟩
      walk_at "dw"
      exact k
    | two y z =>
      have k : R (.bl ((okText 200 y && okText 200 z) && (!decide (y = z) && decide (showS r y = showS r z)))) M := k
      obtain ⟨yl, zl⟩ : y.length ≤ 4000 ∧ z.length ≤ 4000 := hp
      unfold Pa.D
      walk_at "dw"
      refine ⟨_, true, .tup _, kit_ty (by decide +kernel), ?_⟩
      walk_at "dw"
      refine ⟨by show 2 ≤ 16777216; decide, ?_⟩
      refine gather_all (f := fun d => match d with | .str z => .bl (okText 200 z) | d => d) ?_ trivial ?_
      · intro x hx Ky hy
        obtain ⟨t, rfl, ht⟩ : ∃ t, x = .str t ∧ t.length ≤ 4000 := by
          simp only [List.mem_cons, List.not_mem_nil, or_false] at hx
          rcases hx with rfl | rfl
          · exact ⟨_, rfl, yl⟩
          · exact ⟨_, rfl, zl⟩
        walk_at "dw"
        exact ⟨.str t, 200, rfl, .inl ⟨t, rfl, by omega, hy⟩⟩
      walk_at "dw"
      refine x_all (bs := [okText 200 y, okText 200 z]) ?_
      have e : [okText 200 y, okText 200 z].all id = (okText 200 y && okText 200 z) := by simp
      rw [e]
      cases c : okText 200 y && okText 200 z with
      | false =>
        rw [c] at k
        walk_at "dw"
        exact k
      | true =>
        rw [c] at k
        walk_at "dw"
        by_cases c2 : y = z
        · rw [decide_eq_true c2] at k ⊢
          walk_at "dw"
          exact k
        · rw [decide_eq_false c2] at k ⊢
          walk_at "dw"
          refine ⟨r, y, rfl, hr1.1, yl, ?_⟩
          walk_at "dw"
          refine ⟨r, z, rfl, hr1.1, zl, ?_⟩
          walk_at "dw"
          exact k
def spShown (C : Addr) : DC := fun ds M R => ∃ (r : List Sh) (k y : Str) (n : Nat) (p : Pa), ds = [.tup [.str k, toldT r, .str y, .int (n : Nat)], p.D, rowD C r] ∧ rowOk r ∧ okText 200 y = true ∧ n ≤ 500 ∧ p.small ∧ ((k = Str.ofString "impossible" ∧ R (.bl (holdsF (.impossible r y n) p)) M) ∨ (k = Str.ofString "possible" ∧ R (.bl (holdsF (.possible r y n) p)) M))
theorem okD_holds_of_shown (T : Tx K mg) : FnOk P w K mg base L2.CX0 lv_holds_of_shown T.f_holds_of_shown T.d_holds_of_shown p_holds_of_shown (lift (spShown T.C_Shortener)) := by
  refine fnDW T.F_holds_of_shown sc_holds_of_shown (fun ds M R h => ?_) (fun cdv A outer s H E hr => ?_)
  · first | (obtain ⟨rfl, _⟩ := h; rfl) | (obtain ⟨_, rfl, _⟩ := h; rfl) | (obtain ⟨_, _, rfl, _⟩ := h; rfl) | (obtain ⟨_, _, _, rfl, _⟩ := h; rfl) | (obtain ⟨_, _, _, _, rfl, _⟩ := h; rfl) | (obtain ⟨_, _, _, _, _, rfl, _⟩ := h; rfl) | (obtain ⟨_, _, _, _, _, _, rfl, _⟩ := h; rfl) | (obtain ⟨_, _, _, _, _, _, _, rfl, _⟩ := h; rfl) | (obtain ⟨_, _, _, _, _, _, _, _, rfl, _⟩ := h; rfl)
  · have hr64 := hr.units
    have hc_Shortener := T.c_Shortener
    have hi_Shortener := T.i_Shortener
    have hn_Shortener_limit := T.na_Shortener_limit
    have hn_Shortener_head := T.na_Shortener_head
    have hn_Shortener_tail := T.na_Shortener_tail
    have hn_Shortener_mark := T.na_Shortener_mark
    have hn_Shortener_told := T.na_Shortener_told
    refine ⟨_, (pss_cons (ps_if (PW.pt (pw_or (pt_not (pt_val (pe_call (okD_is_text (w := w) T) (hr.mono (by decide)) rfl T.m_is_text T.F_is_text.kp T.b_is_text .nil pass0 (pa_cons (pe_ix (ix_K (K := K) rfl) (pv 0) pe_int (fun _ _ => rfl)) (pa_cons (C8.pe_gc rfl T.k_MOST_TEXT) pa_nil))))) (pw_or1 (pt_not (pt_val (pe_call (okD_is_length (w := w) T) (hr.mono (by decide)) rfl T.m_is_length T.F_is_length.kp T.b_is_length .nil pass0 (pa_cons (pe_ix (ix_K (K := K) rfl) (pv 0) pe_int (fun _ _ => rfl)) pa_nil))))))) (pss_one (ps_ret pe_bl)) pss_nil)
        (pss_cons (ps_if (pt_cmpR (op_eqA (K := K) rfl hr64) (pe_ix (ix_K (K := K) rfl) (pv 0) pe_int (fun _ _ => rfl)) pe_str (nomark _)) (pss_one (ps_ret (pe_and (pe_call (okD_is_nothing (w := w) T) (hr.mono (by decide)) rfl T.m_is_nothing T.F_is_nothing.kp T.b_is_nothing .nil pass0 (pa_cons (pv 1) pa_nil)) (pe_one (pe_cmpR op_isN1 (pe_call (okD_known_signs (w := w) T) (hr.mono (by decide)) rfl T.m_known_signs T.F_known_signs.kp T.b_known_signs .nil pass0 (pa_cons (pe_tup (pa_cons (pe_tup (pa_cons (pv 2) (pa_cons (pe_ix (ix_K (K := K) rfl) (pv 0) pe_int (fun _ _ => rfl)) pa_nil))) pa_nil)) (pa_cons (pe_ix (ix_K (K := K) rfl) (pv 0) pe_int (fun _ _ => rfl)) pa_nil))) pe_non (nomark _)))))) pss_nil)
        (pss_one (ps_ret (pe_and (pe_call (okD_is_text (w := w) T) (hr.mono (by decide)) rfl T.m_is_text T.F_is_text.kp T.b_is_text .nil pass0 (pa_cons (pv 1) (pa_cons (C8.pe_gc rfl T.k_MOST_LENGTH) pa_nil))) (pe_and (pe_cmpR (op_eqA (K := K) rfl hr64) (pe_callB (call_lenK (K := K) rfl) (by rfl) T.n_len (by decide +kernel) (pa_cons (pv 1) pa_nil)) (pe_ix (ix_K (K := K) rfl) (pv 0) pe_int (fun _ _ => rfl)) (nomark _)) (pe_one (pe_cmpR (op_eqA (K := K) rfl hr64) (pe_call (okD_shown_by (w := w) T) (hr.mono (by decide)) rfl T.m_shown_by T.F_shown_by.kp T.b_shown_by .nil pass0 (pa_cons (pv 2) (pa_cons (pv 1) pa_nil))) (pe_ix (ix_K (K := K) rfl) (pv 0) pe_int (fun _ _ => rfl)) (nomark _))))))))), ?_⟩
    refine ⟨_, inferInstance, fun ds M R h => ?_⟩
    obtain ⟨r, kd, y, n, p, rfl, hr1, hy, hn, hp, k⟩ := h
    walk_at "dw"
    refine ⟨_, 200, rfl, .inl ⟨y, rfl, by have := (okText_iff.mp hy).1; omega, ?_⟩⟩
    rw [hy]
    walk_at "dw"
    refine ⟨n, rfl, hn, ?_⟩
    walk_at "dw"
    rcases k with ⟨rfl, k⟩ | ⟨rfl, k⟩
    · rw [decide_eq_true rfl]
      walk_at "dw"
      refine ⟨p, rfl, ?_⟩
      have k : R (.bl (p.isNil && (knownF [(r, y)] n).isNone)) M := k
      cases c : p.isNil with
      | false =>
        rw [c] at k
        walk_at "dw"
        exact ⟨M, mle_refl, k⟩
      | true =>
        rw [c] at k
        walk_at "dw"
        refine ⟨[(r, y)], n, rfl, by omega, by show 1 ≤ 4; decide, fun v hv => ?_, ?_⟩
        · rw [List.mem_singleton.mp hv]
          exact ⟨hr1.1, hr1.2.1, hr1.2.2, hy⟩
        unfold knownR
        cases e : knownF [(r, y)] n with
        | none =>
          rw [e] at k
          walk_at "dw"
          exact ⟨M, mle_refl, k⟩
        | some kk =>
          rw [e] at k
          intro a ha
          walk_at "dw"
          exact ⟨M, mle_set ha, k⟩
    · rw [decide_eq_false possible_ne]
      walk_at "dw"
      refine pa_text hp ⟨fun z e => ?_, fun ne => ?_⟩
      · subst e
        have k : R (.bl (okText 500 z && (decide (z.length = n) && decide (showS r z = y)))) M := k
        have zl : z.length ≤ 4000 := hp
        unfold Pa.D
        cases c : okText 500 z with
        | false =>
          rw [c] at k
          walk_at "dw"
          exact ⟨M, mle_refl, k⟩
        | true =>
          rw [c] at k
          walk_at "dw"
          refine V.x_lenS ⟨by rw [sizeLine_eq]; omega, ?_⟩
          walk_at "dw"
          by_cases c2 : z.length = n
          · rw [decide_eq_true c2] at k
            rw [show decide ((z.length : Int) = (n : Int)) = true from decide_eq_true (by omega)]
            walk_at "dw"
            refine ⟨r, z, rfl, hr1.1, zl, ?_⟩
            walk_at "dw"
            exact ⟨M, mle_refl, k⟩
          · rw [decide_eq_false c2] at k
            rw [show decide ((z.length : Int) = (n : Int)) = false from decide_eq_false (by omega)]
            walk_at "dw"
            exact ⟨M, mle_refl, k⟩
      · have e : p.text 500 (fun z => decide (z.length = n) && decide (showS r z = y)) = false := by
          cases p with
          | txt z => exact absurd rfl (ne z)
          | two y z => rfl
          | nil => rfl
        have k : R (.bl (p.text 500 fun z => decide (z.length = n) && decide (showS r z = y))) M := k
        rw [e] at k
        walk_at "dw"
        exact ⟨M, mle_refl, k⟩
end
section
variable {P : Program} {w : World} {K : PySem.W.Frag} {mg : Str → Option Value} {base : Heap} [V.KDs K w "FORMS"]
def spHolds : DC := fun ds M R => ∃ (c : Cl) (p : Pa), ds = [c.D, p.D] ∧ c.ok ∧ p.small ∧ R (.bl (holdsF c p)) M
theorem any2 (a b k : Str) : ([D.str a, D.str b].any fun e => D.eqb e (.str k)) = (decide (a = k) || decide (b = k)) := by
  simp only [List.any_cons, List.any_nil, Bool.or_false, D.eqb]
  rfl
theorem okD_holds (T : Tx K mg) : FnOk P w K mg base L2.CX0 lv_holds T.f_holds T.d_holds p_holds (lift (spHolds)) := by
  refine fnD T.F_holds sc_holds (fun ds M R h => ?_) (fun cdv A outer s H E hr => ?_)
  · first | (obtain ⟨rfl, _⟩ := h; rfl) | (obtain ⟨_, rfl, _⟩ := h; rfl) | (obtain ⟨_, _, rfl, _⟩ := h; rfl) | (obtain ⟨_, _, _, rfl, _⟩ := h; rfl) | (obtain ⟨_, _, _, _, rfl, _⟩ := h; rfl) | (obtain ⟨_, _, _, _, _, rfl, _⟩ := h; rfl) | (obtain ⟨_, _, _, _, _, _, rfl, _⟩ := h; rfl) | (obtain ⟨_, _, _, _, _, _, _, rfl, _⟩ := h; rfl) | (obtain ⟨_, _, _, _, _, _, _, _, rfl, _⟩ := h; rfl)
  · have hr64 := hr.units
    have hc_Shortener := T.c_Shortener
    have hi_Shortener := T.i_Shortener
    have hn_Shortener_limit := T.na_Shortener_limit
    have hn_Shortener_head := T.na_Shortener_head
    have hn_Shortener_tail := T.na_Shortener_tail
    have hn_Shortener_mark := T.na_Shortener_mark
    have hn_Shortener_told := T.na_Shortener_told
    refine ⟨_, (pss_cons (ps_if (PW.pt (pw_or (pt_not (pt_val (pe_callB (call_isiK (K := K) rfl) (by rfl) T.n_isinstance (by decide +kernel) (pa_cons (pv 0) (pa_cons (pe_bt "tuple" rfl T.n_tuple (by decide +kernel)) pa_nil))))) (pw_or (pt_cmpR op_ltU (pe_callB (call_lenK (K := K) rfl) (by rfl) T.n_len (by decide +kernel) (pa_cons (pv 0) pa_nil)) pe_int (nomark _)) (pw_or1 (pt_not (pt_val (pe_callB (call_isiK (K := K) rfl) (by rfl) T.n_isinstance (by decide +kernel) (pa_cons (pe_ix (ix_K (K := K) rfl) (pv 0) pe_int (fun _ _ => rfl)) (pa_cons (pe_bt "str" rfl T.n_str (by decide +kernel)) pa_nil))))))))) (pss_one (ps_ret pe_bl)) pss_nil)
        (pss_cons (ps_if (pt_cmpR (op_neA (K := K) rfl hr64) (pe_callB (call_lenK (K := K) rfl) (by rfl) T.n_len (by decide +kernel) (pa_cons (pv 0) pa_nil)) (pe_kget (K := K) (w := w) rfl rfl T.t_FORMS (pe_gref rfl T.m_FORMS) (pe_ix (ix_K (K := K) rfl) (pv 0) pe_int (fun _ _ => rfl)) ⟨rfl, rfl, rfl, rfl⟩) (nomark _)) (pss_one (ps_ret pe_bl)) pss_nil)
        (pss_cons (ps_set (i := 2) sc_holds.nd rfl (by first | exact Or.inl rfl | exact Or.inr rfl) (pe_call (okD_row_in (w := w) T) (hr.mono (by decide)) rfl T.m_row_in T.F_row_in.kp T.b_row_in .nil pass0 (pa_cons (pe_ix (ix_K (K := K) rfl) (pv 0) pe_int (fun _ _ => rfl)) pa_nil)))
        (pss_cons (ps_if (pt_cmpR op_isN1 (pv 2) pe_non (nomark _)) (pss_one (ps_ret pe_bl)) pss_nil)
        (pss_cons (ps_if (pt_cmpR (op_inK (K := K) rfl) (pe_ix (ix_K (K := K) rfl) (pv 0) pe_int (fun _ _ => rfl)) (pe_tup (pa_cons pe_str (pa_cons pe_str pa_nil))) (by rfl)) (pss_one (ps_ret (pe_call (okD_holds_of_two (w := w) T) (hr.mono (by decide)) rfl T.m_holds_of_two T.F_holds_of_two.kp T.b_holds_of_two .nil pass0 (pa_cons (pv 0) (pa_cons (pv 1) (pa_cons (pv 2) pa_nil)))))) pss_nil)
        (pss_cons (ps_if (pt_cmpR (op_inK (K := K) rfl) (pe_ix (ix_K (K := K) rfl) (pv 0) pe_int (fun _ _ => rfl)) (pe_tup (pa_cons pe_str (pa_cons pe_str pa_nil))) (by rfl)) (pss_one (ps_ret (pe_call (okD_holds_of_one (w := w) T) (hr.mono (by decide)) rfl T.m_holds_of_one T.F_holds_of_one.kp T.b_holds_of_one .nil pass0 (pa_cons (pv 0) (pa_cons (pv 1) (pa_cons (pv 2) pa_nil)))))) pss_nil)
        (pss_one (ps_ret (pe_ifExp (pt_cmpR (op_eqA (K := K) rfl hr64) (pe_ix (ix_K (K := K) rfl) (pv 0) pe_int (fun _ _ => rfl)) pe_str (nomark _)) (pe_call (okD_holds_of_pair (w := w) T) (hr.mono (by decide)) rfl T.m_holds_of_pair T.F_holds_of_pair.kp T.b_holds_of_pair .nil pass0 (pa_cons (pv 1) (pa_cons (pv 2) pa_nil))) (pe_call (okD_holds_of_shown (w := w) T) (hr.mono (by decide)) rfl T.m_holds_of_shown T.F_holds_of_shown.kp T.b_holds_of_shown .nil pass0 (pa_cons (pv 0) (pa_cons (pv 1) (pa_cons (pv 2) pa_nil))))))))))))), ?_⟩
    refine ⟨_, inferInstance, fun ds M R h => ?_⟩
    obtain ⟨c, p, rfl, hc, hp, k⟩ := h
    cases c with
    | alike r q =>
      obtain ⟨hr1, hq1⟩ : rowOk r ∧ rowOk q := hc
      rw [show (Cl.alike r q).D = .tup [.str (Str.ofString "alike"), toldT r, toldT q] from rfl]
      walk_at "dw"
      refine ⟨_, true, .tup _, kit_ty (by decide +kernel), ?_⟩
      walk_at "dw"
      refine ⟨_, true, .str _, kit_ty (by decide +kernel), ?_⟩
      walk_at "dw"
      refine V.x_kget ?_
      walk_at "dw"
      refine ⟨(Str.ofString "alike", 3), by simp, rfl, ?_⟩
      walk_at "dw"
      refine ⟨r, rfl, hr1, ?_⟩
      walk_at "dw"
      rw [show V.isNon (rowD T.C_Shortener r) = false from rfl]
      walk_at "dw"
      refine ⟨_, .inr (.inl rfl), rfl, rfl, ?_⟩
      rw [any2, show (decide (Str.ofString "alike" = Str.ofString "alike") || decide (Str.ofString "unlike" = Str.ofString "alike")) = true by decide +kernel]
      walk_at "dw"
      exact ⟨r, q, _, p, rfl, hr1, hq1, hp, .inl ⟨rfl, k⟩⟩
    | unlike r q =>
      obtain ⟨hr1, hq1⟩ : rowOk r ∧ rowOk q := hc
      rw [show (Cl.unlike r q).D = .tup [.str (Str.ofString "unlike"), toldT r, toldT q] from rfl]
      walk_at "dw"
      refine ⟨_, true, .tup _, kit_ty (by decide +kernel), ?_⟩
      walk_at "dw"
      refine ⟨_, true, .str _, kit_ty (by decide +kernel), ?_⟩
      walk_at "dw"
      refine V.x_kget ?_
      walk_at "dw"
      refine ⟨(Str.ofString "unlike", 3), by simp, rfl, ?_⟩
      walk_at "dw"
      refine ⟨r, rfl, hr1, ?_⟩
      walk_at "dw"
      rw [show V.isNon (rowD T.C_Shortener r) = false from rfl]
      walk_at "dw"
      refine ⟨_, .inr (.inl rfl), rfl, rfl, ?_⟩
      rw [any2, show (decide (Str.ofString "alike" = Str.ofString "unlike") || decide (Str.ofString "unlike" = Str.ofString "unlike")) = true by decide +kernel]
      walk_at "dw"
      exact ⟨r, q, _, p, rfl, hr1, hq1, hp, .inr ⟨rfl, k⟩⟩
    | stable r =>
      have hr1 : rowOk r := hc
      rw [show (Cl.stable r).D = .tup [.str (Str.ofString "stable"), toldT r] from rfl]
      walk_at "dw"
      refine ⟨_, true, .tup _, kit_ty (by decide +kernel), ?_⟩
      walk_at "dw"
      refine ⟨_, true, .str _, kit_ty (by decide +kernel), ?_⟩
      walk_at "dw"
      refine V.x_kget ?_
      walk_at "dw"
      refine ⟨(Str.ofString "stable", 2), by simp, rfl, ?_⟩
      walk_at "dw"
      refine ⟨r, rfl, hr1, ?_⟩
      walk_at "dw"
      rw [show V.isNon (rowD T.C_Shortener r) = false from rfl]
      walk_at "dw"
      refine ⟨_, .inr (.inl rfl), rfl, rfl, ?_⟩
      rw [any2, show (decide (Str.ofString "alike" = Str.ofString "stable") || decide (Str.ofString "unlike" = Str.ofString "stable")) = false by decide +kernel]
      walk_at "dw"
      refine ⟨_, .inr (.inl rfl), rfl, rfl, ?_⟩
      rw [any2, show (decide (Str.ofString "stable" = Str.ofString "stable") || decide (Str.ofString "unstable" = Str.ofString "stable")) = true by decide +kernel]
      walk_at "dw"
      exact ⟨r, _, p, rfl, hr1, hp, .inl ⟨rfl, k⟩⟩
    | unstable r =>
      have hr1 : rowOk r := hc
      rw [show (Cl.unstable r).D = .tup [.str (Str.ofString "unstable"), toldT r] from rfl]
      walk_at "dw"
      refine ⟨_, true, .tup _, kit_ty (by decide +kernel), ?_⟩
      walk_at "dw"
      refine ⟨_, true, .str _, kit_ty (by decide +kernel), ?_⟩
      walk_at "dw"
      refine V.x_kget ?_
      walk_at "dw"
      refine ⟨(Str.ofString "unstable", 2), by simp, rfl, ?_⟩
      walk_at "dw"
      refine ⟨r, rfl, hr1, ?_⟩
      walk_at "dw"
      rw [show V.isNon (rowD T.C_Shortener r) = false from rfl]
      walk_at "dw"
      refine ⟨_, .inr (.inl rfl), rfl, rfl, ?_⟩
      rw [any2, show (decide (Str.ofString "alike" = Str.ofString "unstable") || decide (Str.ofString "unlike" = Str.ofString "unstable")) = false by decide +kernel]
      walk_at "dw"
      refine ⟨_, .inr (.inl rfl), rfl, rfl, ?_⟩
      rw [any2, show (decide (Str.ofString "stable" = Str.ofString "unstable") || decide (Str.ofString "unstable" = Str.ofString "unstable")) = true by decide +kernel]
      walk_at "dw"
      exact ⟨r, _, p, rfl, hr1, hp, .inr ⟨rfl, k⟩⟩
    | possible r y n =>
      obtain ⟨hr1, hy, hn⟩ : rowOk r ∧ okText 200 y = true ∧ n ≤ 500 := hc
      rw [show (Cl.possible r y n).D = .tup [.str (Str.ofString "possible"), toldT r, .str y, .int (n : Nat)] from rfl]
      walk_at "dw"
      refine ⟨_, true, .tup _, kit_ty (by decide +kernel), ?_⟩
      walk_at "dw"
      refine ⟨_, true, .str _, kit_ty (by decide +kernel), ?_⟩
      walk_at "dw"
      refine V.x_kget ?_
      walk_at "dw"
      refine ⟨(Str.ofString "possible", 4), by simp, rfl, ?_⟩
      walk_at "dw"
      refine ⟨r, rfl, hr1, ?_⟩
      walk_at "dw"
      rw [show V.isNon (rowD T.C_Shortener r) = false from rfl]
      walk_at "dw"
      refine ⟨_, .inr (.inl rfl), rfl, rfl, ?_⟩
      rw [any2, show (decide (Str.ofString "alike" = Str.ofString "possible") || decide (Str.ofString "unlike" = Str.ofString "possible")) = false by decide +kernel]
      walk_at "dw"
      refine ⟨_, .inr (.inl rfl), rfl, rfl, ?_⟩
      rw [any2, show (decide (Str.ofString "stable" = Str.ofString "possible") || decide (Str.ofString "unstable" = Str.ofString "possible")) = false by decide +kernel]
      walk_at "dw"
      rw [decide_eq_false (show ¬ Str.ofString "possible" = Str.ofString "confused" by decide +kernel)]
      walk_at "dw"
      exact ⟨r, _, y, n, p, rfl, hr1, hy, hn, hp, .inr ⟨rfl, k⟩⟩
    | impossible r y n =>
      obtain ⟨hr1, hy, hn⟩ : rowOk r ∧ okText 200 y = true ∧ n ≤ 500 := hc
      rw [show (Cl.impossible r y n).D = .tup [.str (Str.ofString "impossible"), toldT r, .str y, .int (n : Nat)] from rfl]
      walk_at "dw"
      refine ⟨_, true, .tup _, kit_ty (by decide +kernel), ?_⟩
      walk_at "dw"
      refine ⟨_, true, .str _, kit_ty (by decide +kernel), ?_⟩
      walk_at "dw"
      refine V.x_kget ?_
      walk_at "dw"
      refine ⟨(Str.ofString "impossible", 4), by simp, rfl, ?_⟩
      walk_at "dw"
      refine ⟨r, rfl, hr1, ?_⟩
      walk_at "dw"
      rw [show V.isNon (rowD T.C_Shortener r) = false from rfl]
      walk_at "dw"
      refine ⟨_, .inr (.inl rfl), rfl, rfl, ?_⟩
      rw [any2, show (decide (Str.ofString "alike" = Str.ofString "impossible") || decide (Str.ofString "unlike" = Str.ofString "impossible")) = false by decide +kernel]
      walk_at "dw"
      refine ⟨_, .inr (.inl rfl), rfl, rfl, ?_⟩
      rw [any2, show (decide (Str.ofString "stable" = Str.ofString "impossible") || decide (Str.ofString "unstable" = Str.ofString "impossible")) = false by decide +kernel]
      walk_at "dw"
      rw [decide_eq_false (show ¬ Str.ofString "impossible" = Str.ofString "confused" by decide +kernel)]
      walk_at "dw"
      exact ⟨r, _, y, n, p, rfl, hr1, hy, hn, hp, .inl ⟨rfl, k⟩⟩
    | confused r =>
      have hr1 : rowOk r := hc
      rw [show (Cl.confused r).D = .tup [.str (Str.ofString "confused"), toldT r] from rfl]
      walk_at "dw"
      refine ⟨_, true, .tup _, kit_ty (by decide +kernel), ?_⟩
      walk_at "dw"
      refine ⟨_, true, .str _, kit_ty (by decide +kernel), ?_⟩
      walk_at "dw"
      refine V.x_kget ?_
      walk_at "dw"
      refine ⟨(Str.ofString "confused", 2), by simp, rfl, ?_⟩
      walk_at "dw"
      refine ⟨r, rfl, hr1, ?_⟩
      walk_at "dw"
      rw [show V.isNon (rowD T.C_Shortener r) = false from rfl]
      walk_at "dw"
      refine ⟨_, .inr (.inl rfl), rfl, rfl, ?_⟩
      rw [any2, show (decide (Str.ofString "alike" = Str.ofString "confused") || decide (Str.ofString "unlike" = Str.ofString "confused")) = false by decide +kernel]
      walk_at "dw"
      refine ⟨_, .inr (.inl rfl), rfl, rfl, ?_⟩
      rw [any2, show (decide (Str.ofString "stable" = Str.ofString "confused") || decide (Str.ofString "unstable" = Str.ofString "confused")) = false by decide +kernel]
      walk_at "dw"
      rw [decide_eq_true rfl]
      walk_at "dw"
      exact ⟨r, p, rfl, hr1, hp, k⟩
end
end G
namespace G
open PySem PySem.Spec PyProof.Rows L2 U V
section
variable {P : Program} {w : World} {K : PySem.W.Frag} {mg : Str → Option Value} {base : Heap}
theorem okE_InvalidNumber___init__ (T : Tx K mg) : FnOk P w K mg base L2.CX0 lv_InvalidNumber___init__ T.f_InvalidNumber___init__ T.d_InvalidNumber___init__ p_InvalidNumber___init__ (spExI T.C_InvalidNumber "value") := by
  refine T.F_InvalidNumber___init__.ok sc_InvalidNumber___init__ (fun vs H Q E h => ?_) (fun cdv A outer s H vs Q E hr h => ?_)
  · obtain ⟨a, y, rfl, _⟩ := h
    rfl
  · obtain ⟨a, y, rfl, ha, q⟩ := h
    refine ⟨_, pss_one (ps_ost (pv 0) (pv 1)), ?_⟩
    exact ⟨y, rfl, .ref a, rfl, a, T.C_InvalidNumber, rfl, T.o_InvalidNumber, T.na_InvalidNumber_value, .inl ⟨ha, fun dx nd ne => q dx nd ne⟩⟩
theorem okE_InvalidMark___init__ (T : Tx K mg) : FnOk P w K mg base L2.CX0 lv_InvalidMark___init__ T.f_InvalidMark___init__ T.d_InvalidMark___init__ p_InvalidMark___init__ (spExI T.C_InvalidMark "value") := by
  refine T.F_InvalidMark___init__.ok sc_InvalidMark___init__ (fun vs H Q E h => ?_) (fun cdv A outer s H vs Q E hr h => ?_)
  · obtain ⟨a, y, rfl, _⟩ := h
    rfl
  · obtain ⟨a, y, rfl, ha, q⟩ := h
    refine ⟨_, pss_one (ps_ost (pv 0) (pv 1)), ?_⟩
    exact ⟨y, rfl, .ref a, rfl, a, T.C_InvalidMark, rfl, T.o_InvalidMark, T.na_InvalidMark_value, .inl ⟨ha, fun dx nd ne => q dx nd ne⟩⟩
/-- a value of a known kind, but no number from 0 to m -/
def BadN (K : PySem.W.Frag) (M : Mem) (m : Int) (d : D) : Prop := ∃ t : String, TyD K M d (.type t) ∧ t ∈ tyNames ∧ ∀ i : Int, d = .int i → ¬ (0 ≤ i ∧ i ≤ m)
theorem ty_int {K : PySem.W.Frag} {M : Mem} {d : D} (h : TyD K M d (.type "int")) : ∃ i, d = .int i := by
  generalize e : Value.type "int" = t at h
  cases h <;> first | exact ⟨_, rfl⟩ | (injection e with e; exact absurd e (by decide)) | cases e
def spCheckNumberX (C : Addr) (K : PySem.W.Frag) : DCX := fun ds M R q => ∃ d, ds = [d] ∧ ((∃ n : Nat, d = .int n ∧ n ≤ 40 ∧ R .non M) ∨ (BadN K M 40 d ∧ q C [(Str.ofString "value", d)] M))
theorem okX_check_number (T : Tx K mg) : FnOk P w K mg base (L2.CX P w) lv_check_number T.f_check_number T.d_check_number p_check_number (liftX (spCheckNumberX T.C_InvalidNumber K)) := by
  refine fnX T.F_check_number sc_check_number (fun ds M R q h => ?_) (fun cdv A outer s H E hr tk hpo => ?_)
  · first | (obtain ⟨rfl, _⟩ := h; rfl) | (obtain ⟨_, rfl, _⟩ := h; rfl) | (obtain ⟨_, _, rfl, _⟩ := h; rfl) | (obtain ⟨_, _, _, rfl, _⟩ := h; rfl) | (obtain ⟨_, _, _, _, rfl, _⟩ := h; rfl) | (obtain ⟨_, _, _, _, _, rfl, _⟩ := h; rfl) | (obtain ⟨_, _, _, _, _, _, rfl, _⟩ := h; rfl) | (obtain ⟨_, _, _, _, _, _, _, rfl, _⟩ := h; rfl) | (obtain ⟨_, _, _, _, _, _, _, _, rfl, _⟩ := h; rfl)
  · have hr64 := hr.units
    have hc_Shortener := T.c_Shortener
    have hi_Shortener := T.i_Shortener
    have hn_Shortener_limit := T.na_Shortener_limit
    have hn_Shortener_head := T.na_Shortener_head
    have hn_Shortener_tail := T.na_Shortener_tail
    have hn_Shortener_mark := T.na_Shortener_mark
    have hn_Shortener_told := T.na_Shortener_told
    refine ⟨_, (pss_one (ps_if (PW.pt (pw_or (pt_not (pt_val (pe_call (okD_is_integer (w := w) T) (hr.mono (by decide)) rfl T.m_is_integer T.F_is_integer.kp T.b_is_integer .nil pass0 (pa_cons (pv 0) pa_nil)))) (pw_or1 (pt_not (pt_chain op_le op_le pe_int (pv 0) (C8.pe_gc rfl T.k_MOST_SIGNS)))))) (pss_one (ps_raiseX T.o_InvalidNumber T.i_InvalidNumber T.j_InvalidNumber (okE_InvalidNumber___init__ T) (hr.mono (by decide)) T.b_InvalidNumber___init__ rfl T.m_InvalidNumber rfl tk (pv 0))) pss_nil)), ?_⟩
    refine ⟨_, inferInstance, fun ds M R q h => ?_⟩
    obtain ⟨d, rfl, h⟩ := h
    walk_at "dw"
    rcases h with ⟨n, rfl, hn, p⟩ | ⟨⟨t, ty, ht, hb⟩, p⟩
    · refine ⟨_, rfl, _, .int _, by decide, true, rfl, ?_⟩
      walk_at "dw"
      exact p
    · refine ⟨_, rfl, t, ty, ht, _, rfl, ?_⟩
      by_cases c : t = "int"
      · subst c
        obtain ⟨i, rfl⟩ := ty_int ty
        have hb := hb i rfl
        rw [show ("int" == "int") = true by decide]
        walk_at "dw"
        by_cases c0 : 0 ≤ i
        · have c1 : ¬ i ≤ 40 := fun z => hb ⟨c0, z⟩
          rw [decide_eq_true c0]
          walk_at "dw"
          exact p
        · rw [decide_eq_false c0]
          walk_at "dw"
          exact p
      · rw [show (t == "int") = false by simpa using c]
        walk_at "dw"
        exact p
/-- a value that is no mark: a text that is none, or something else -/
def BadT (K : PySem.W.Frag) (M : Mem) (n : Nat) (d : D) : Prop := (∃ z, d = .str z ∧ z.length ≤ 16777216 ∧ okText n z = false) ∨ ∃ t : String, TyD K M d (.type t) ∧ t ∈ tyNames ∧ t ≠ "str"
theorem badT_is {K : PySem.W.Frag} {M : Mem} {n : Nat} {d : D} {R : QD} (h : BadT K M n d) (q : R (.bl false) M) : spIsText K [d, .int n] M R := by
  rcases h with ⟨z, rfl, hz, e⟩ | ⟨t, ty, ht, hs⟩
  · exact ⟨_, n, rfl, .inl ⟨z, rfl, hz, by rw [e]; exact q⟩⟩
  · exact ⟨_, n, rfl, .inr ⟨t, ty, ht, hs, q⟩⟩
def GoodN (d : D) : Prop := ∃ n : Nat, d = .int n ∧ n ≤ 40
/-- a shortener that is refused -/
def spShIX (C CN CM : Addr) (K : PySem.W.Frag) : DCX := fun ds M R q => ∃ (x : Addr) (a b c m : D), ds = [.ptr x, a, b, c, m] ∧ M x = some (.ins C []) ∧
  ((BadN K M 40 a ∧ q CN [(Str.ofString "value", a)] M) ∨ (GoodN a ∧ BadN K M 40 b ∧ q CN [(Str.ofString "value", b)] M) ∨ (GoodN a ∧ GoodN b ∧ BadN K M 40 c ∧ q CN [(Str.ofString "value", c)] M) ∨ (GoodN a ∧ GoodN b ∧ GoodN c ∧ BadT K M 3 m ∧ q CM [(Str.ofString "value", m)] M))
theorem okX_Shortener___init__ (T : Tx K mg) : FnOk P w K mg base (L2.CX P w) lv_Shortener___init__ T.f_Shortener___init__ T.d_Shortener___init__ p_Shortener___init__ (liftX (spShIX T.C_Shortener T.C_InvalidNumber T.C_InvalidMark K)) := by
  refine fnX T.F_Shortener___init__ sc_Shortener___init__ (fun ds M R q h => ?_) (fun cdv A outer s H E hr tk hpo => ?_)
  · first | (obtain ⟨rfl, _⟩ := h; rfl) | (obtain ⟨_, rfl, _⟩ := h; rfl) | (obtain ⟨_, _, rfl, _⟩ := h; rfl) | (obtain ⟨_, _, _, rfl, _⟩ := h; rfl) | (obtain ⟨_, _, _, _, rfl, _⟩ := h; rfl) | (obtain ⟨_, _, _, _, _, rfl, _⟩ := h; rfl) | (obtain ⟨_, _, _, _, _, _, rfl, _⟩ := h; rfl) | (obtain ⟨_, _, _, _, _, _, _, rfl, _⟩ := h; rfl) | (obtain ⟨_, _, _, _, _, _, _, _, rfl, _⟩ := h; rfl)
  · have hr64 := hr.units
    have hc_Shortener := T.c_Shortener
    have hi_Shortener := T.i_Shortener
    have hn_Shortener_limit := T.na_Shortener_limit
    have hn_Shortener_head := T.na_Shortener_head
    have hn_Shortener_tail := T.na_Shortener_tail
    have hn_Shortener_mark := T.na_Shortener_mark
    have hn_Shortener_told := T.na_Shortener_told
    refine ⟨_, (pss_cons (ps_expr (pe_call (okX_check_number (w := w) T) (hr.mono (by decide)) rfl T.m_check_number T.F_check_number.kp T.b_check_number .nil (passX tk) (pa_cons (pv 1) pa_nil)))
        (pss_cons (ps_expr (pe_call (okX_check_number (w := w) T) (hr.mono (by decide)) rfl T.m_check_number T.F_check_number.kp T.b_check_number .nil (passX tk) (pa_cons (pv 2) pa_nil)))
        (pss_cons (ps_expr (pe_call (okX_check_number (w := w) T) (hr.mono (by decide)) rfl T.m_check_number T.F_check_number.kp T.b_check_number .nil (passX tk) (pa_cons (pv 3) pa_nil)))
        (pss_cons (ps_if (pt_not (pt_val (pe_call (okD_is_text (w := w) T) (hr.mono (by decide)) rfl T.m_is_text T.F_is_text.kp T.b_is_text .nil pass0 (pa_cons (pv 4) (pa_cons (C8.pe_gc rfl T.k_MOST_MARK) pa_nil))))) (pss_one (ps_raiseX T.o_InvalidMark T.i_InvalidMark T.j_InvalidMark (okE_InvalidMark___init__ T) (hr.mono (by decide)) T.b_InvalidMark___init__ rfl T.m_InvalidMark rfl tk (pv 4))) pss_nil)
        (pss_cons ps_never
        (pss_cons ps_never
        (pss_cons ps_never
        (pss_cons ps_never
        (pss_one ps_never))))))))), ?_⟩
    refine ⟨_, inferInstance, fun ds M R q h => ?_⟩
    obtain ⟨x, a, b, c, m, rfl, hx, h⟩ := h
    walk_at "dw"
    rcases h with ⟨h, p⟩ | ⟨⟨n, rfl, hn⟩, h⟩ | ⟨⟨n, rfl, hn⟩, h⟩ | ⟨⟨n, rfl, hn⟩, h⟩
    · exact ⟨_, rfl, .inr ⟨h, p⟩⟩
    · obtain ⟨h, p⟩ := h
      refine ⟨_, rfl, .inl ⟨n, rfl, hn, ?_⟩⟩
      walk_at "dw"
      exact ⟨_, rfl, .inr ⟨h, p⟩⟩
    · obtain ⟨⟨n2, rfl, hn2⟩, h, p⟩ := h
      refine ⟨_, rfl, .inl ⟨n, rfl, hn, ?_⟩⟩
      walk_at "dw"
      refine ⟨_, rfl, .inl ⟨n2, rfl, hn2, ?_⟩⟩
      walk_at "dw"
      exact ⟨_, rfl, .inr ⟨h, p⟩⟩
    · obtain ⟨⟨n2, rfl, hn2⟩, ⟨n3, rfl, hn3⟩, h, p⟩ := h
      refine ⟨_, rfl, .inl ⟨n, rfl, hn, ?_⟩⟩
      walk_at "dw"
      refine ⟨_, rfl, .inl ⟨n2, rfl, hn2, ?_⟩⟩
      walk_at "dw"
      refine ⟨_, rfl, .inl ⟨n3, rfl, hn3, ?_⟩⟩
      walk_at "dw"
      refine badT_is (n := 3) h ?_
      walk_at "dw"
      exact p
theorem badN_int {K : PySem.W.Frag} {M : Mem} {m i : Int} (h : ¬ (0 ≤ i ∧ i ≤ m)) : BadN K M m (.int i) := ⟨"int", .int i, by decide, fun j e => by cases e; exact h⟩
theorem badN_of {K : PySem.W.Frag} {M : Mem} {m : Int} {d : D} (t : String) (ty : TyD K M d (.type t)) (ht : t ∈ tyNames) (h : ∀ i, d ≠ .int i) : BadN K M m d := ⟨t, ty, ht, fun i e => (h i e).elim⟩
theorem badT_str {K : PySem.W.Frag} {M : Mem} {n : Nat} {z : Str} (h : okText n z = false) (hz : z.length ≤ 16777216) : BadT K M n (.str z) := .inl ⟨z, rfl, hz, h⟩
theorem badT_of {K : PySem.W.Frag} {M : Mem} {n : Nat} {d : D} (t : String) (ty : TyD K M d (.type t)) (ht : t ∈ tyNames) (h : t ≠ "str") : BadT K M n d := .inr ⟨t, ty, ht, h⟩
theorem okXF_Shortener___init__ (T : Tx K mg) : FnOk P w K mg base (L2.CX P w) lv_Shortener___init__ T.f_Shortener___init__ T.d_Shortener___init__ p_Shortener___init__ (liftXF (spShIX T.C_Shortener T.C_InvalidNumber T.C_InvalidMark K)) := okX_Shortener___init__ T
theorem ty_ne {t s : String} (ht : t ∈ tyNames) (hs : s ∈ ["list", "tuple", "str", "dict"]) (n : t ≠ s) : kitB t s = some false := by
  have : ∀ s ∈ (["list", "tuple", "str", "dict"] : List String), ∀ t ∈ tyNames, t ≠ s → kitB t s = some false := by decide +kernel
  exact this s hs t ht n
def spIsLenB (K : PySem.W.Frag) : DC := fun ds M R => ∃ d, ds = [d] ∧ BadN K M 500 d ∧ R (.bl false) M
theorem okD_is_length_b (T : Tx K mg) : FnOk P w K mg base L2.CX0 lv_is_length T.f_is_length T.d_is_length p_is_length (lift (spIsLenB K)) := by
  refine fnD T.F_is_length sc_is_length (fun ds M R h => ?_) (fun cdv A outer s H E hr => ?_)
  · first | (obtain ⟨rfl, _⟩ := h; rfl) | (obtain ⟨_, rfl, _⟩ := h; rfl) | (obtain ⟨_, _, rfl, _⟩ := h; rfl) | (obtain ⟨_, _, _, rfl, _⟩ := h; rfl) | (obtain ⟨_, _, _, _, rfl, _⟩ := h; rfl) | (obtain ⟨_, _, _, _, _, rfl, _⟩ := h; rfl) | (obtain ⟨_, _, _, _, _, _, rfl, _⟩ := h; rfl) | (obtain ⟨_, _, _, _, _, _, _, rfl, _⟩ := h; rfl) | (obtain ⟨_, _, _, _, _, _, _, _, rfl, _⟩ := h; rfl)
  · have hr64 := hr.units
    have hc_Shortener := T.c_Shortener
    have hi_Shortener := T.i_Shortener
    have hn_Shortener_limit := T.na_Shortener_limit
    have hn_Shortener_head := T.na_Shortener_head
    have hn_Shortener_tail := T.na_Shortener_tail
    have hn_Shortener_mark := T.na_Shortener_mark
    have hn_Shortener_told := T.na_Shortener_told
    refine ⟨_, (pss_one (ps_ret (pe_and (pe_call (okD_is_integer (w := w) T) (hr.mono (by decide)) rfl T.m_is_integer T.F_is_integer.kp T.b_is_integer .nil pass0 (pa_cons (pv 0) pa_nil)) (pe_one (pe_chain op_le op_le pe_int (pv 0) (C8.pe_gc rfl T.k_MOST_LENGTH)))))), ?_⟩
    refine ⟨_, inferInstance, fun ds M R h => ?_⟩
    obtain ⟨d, rfl, ⟨t, ty, ht, hb⟩, p⟩ := h
    walk_at "dw"
    refine ⟨_, rfl, t, ty, ht, _, rfl, ?_⟩
    by_cases c : t = "int"
    · subst c
      obtain ⟨i, rfl⟩ := ty_int ty
      have hb := hb i rfl
      rw [show ("int" == "int") = true by decide]
      walk_at "dw"
      by_cases c0 : 0 ≤ i
      · have c1 : ¬ i ≤ 500 := fun z => hb ⟨c0, z⟩
        rw [decide_eq_true c0]
        walk_at "dw"
        rw [decide_eq_false c1]
        exact p
      · rw [decide_eq_false c0]
        walk_at "dw"
        exact p
    · rw [show (t == "int") = false by simpa using c]
      walk_at "dw"
      exact p
def spIsLenE (K : PySem.W.Frag) : DC := fun ds M R => spIsLength ds M R ∨ spIsLenB K ds M R
theorem fn_orX {CX : CXT} {k : Nat} {f : Addr} {fd : FuncData} {ps : List Str} {a b : DC} (F : FnOk P w K mg base CX k f fd ps (lift a)) (G : FnOk P w K mg base CX k f fd ps (lift b)) : FnOk P w K mg base CX k f fd ps (lift fun ds M R => a ds M R ∨ b ds M R) := by
  have split : ∀ vs H Q E, lift (fun ds M R => a ds M R ∨ b ds M R) vs H Q E → lift a vs H Q E ∨ lift b vs H Q E := by
    rintro vs H Q E ⟨S, M, ds, R, w, h, p | p, k⟩
    · exact .inl ⟨S, M, ds, R, w, h, p, k⟩
    · exact .inr ⟨S, M, ds, R, w, h, p, k⟩
  exact ⟨fun vs H Q E q => (split vs H Q E q).elim (F.len vs H Q E) (G.len vs H Q E), fun A outer s H args us vs Q E hr e0 hb r hsp => (split vs H Q E hsp).elim (F.run A outer s H args us vs Q E hr e0 hb r) (G.run A outer s H args us vs Q E hr e0 hb r)⟩
theorem okB_is_length (T : Tx K mg) : FnOk P w K mg base L2.CX0 lv_is_length T.f_is_length T.d_is_length p_is_length (lift (spIsLenE K)) := fn_orX (okD_is_length T) (by exact okD_is_length_b T)
end
end G
namespace G
open PySem PySem.Spec PyProof.Rows L2 U V
def formL : List (Str × Int) := [(Str.ofString "alike", 3), (Str.ofString "unlike", 3), (Str.ofString "stable", 2), (Str.ofString "unstable", 2), (Str.ofString "possible", 4), (Str.ofString "impossible", 4), (Str.ofString "confused", 2)]
def missL : List Str := [Str.ofString "A", Str.ofString "Alike", Str.ofString " ", Str.ofString "aaaaaaaaaaaaaaaaaaaaaaaaaaaaaaaaaaaaaaaaaaaaaaaaaaaaaaaaaaaaaaaaaaaaaaaaaaaaaaaaaaaaaaaaaaaaaaaaaaaaaaaaaaaaaaaaaaaaaaaaaaaaaaaaaaaaaaaaaaaaaaaaaaaaaaaaaaaaaaaaaaaaaaaaaaaaaaaaaaaaaaaaaaaaaaaaaaaaaaaaaaaaaaaaaaaaaaaaaaaaaaaaaaaaaaaaaaaaaaaaaaaaaaaaaaaaaaaaaaaaaaaaaaaaaaaaaaaaaaaaaaaaaaaaaaaaaaaaaaaaaaaaaaaaaaaaaaaaaaaaaaaaaaaaaaaaaaaaaaaaaaaaaaaaaaaaaaaaaaaaaaaaaaaaaaaaaaaaaaaaaaaaaaaaaaaaaaaaaaa-"]
section
variable {P : Program} {w : World} {K : PySem.W.Frag} {mg : Str → Option Value} {base : Heap}
/-- a thing of a known kind -/
def KindD (K : PySem.W.Frag) (d : D) (t : String) : Prop := (∀ M, TyD K M d (.type t)) ∧ t ∈ tyNames
/-- a thing of a known kind, but no tuple -/
def NotT (K : PySem.W.Frag) (d : D) : Prop := ∃ t : String, KindD K d t ∧ t ≠ "tuple"
def NotS (K : PySem.W.Frag) (d : D) : Prop := ∃ t : String, KindD K d t ∧ t ≠ "str"
theorem notT_isi {d : D} {M : Mem} {R : QD} (h : NotT K d) (q : R (.bl false) M) : rIsi1 K [d, .ty "tuple"] M R := by
  obtain ⟨t, ⟨ty, ht⟩, n⟩ := h
  exact ⟨_, false, ty M, kit_ty (ty_ne ht (by decide) n), q⟩
theorem notS_isi {d : D} {M : Mem} {R : QD} (h : NotS K d) (q : R (.bl false) M) : rIsi1 K [d, .ty "str"] M R := by
  obtain ⟨t, ⟨ty, ht⟩, n⟩ := h
  exact ⟨_, false, ty M, kit_ty (ty_ne ht (by decide) n), q⟩
theorem tup_isi {xs : List D} {M : Mem} {R : QD} (q : R (.bl true) M) : rIsi1 K [.tup xs, .ty "tuple"] M R := ⟨_, true, .tup _, kit_ty (by decide +kernel), q⟩
theorem str_isi {z : Str} {M : Mem} {R : QD} (q : R (.bl true) M) : rIsi1 K [.str z, .ty "str"] M R := ⟨_, true, .str _, kit_ty (by decide +kernel), q⟩
/-- four numbers that no shortener has -/
def Bad4 (K : PySem.W.Frag) (a b c m : D) : Prop := (∀ M, BadN K M 40 a) ∨ (GoodN a ∧ ∀ M, BadN K M 40 b) ∨ (GoodN a ∧ GoodN b ∧ ∀ M, BadN K M 40 c) ∨ (GoodN a ∧ GoodN b ∧ GoodN c ∧ ∀ M, BadT K M 3 m)
def BadSh (K : PySem.W.Frag) (d : D) : Prop := NotT K d ∨ (∃ xs, d = .tup xs ∧ xs.length ≠ 4) ∨ ∃ a b c m, d = .tup [a, b, c, m] ∧ Bad4 K a b c m
def spShInB (K : PySem.W.Frag) : DC := fun ds M R => ∃ d, ds = [d] ∧ BadSh K d ∧ R .non M
theorem okD_shortener_in_b (T : Tx K mg) : FnOk P w K mg base L2.CX0 lv_shortener_in T.f_shortener_in T.d_shortener_in p_shortener_in (lift (spShInB K)) := by
  refine fnD T.F_shortener_in sc_shortener_in (fun ds M R h => ?_) (fun cdv A outer s H E hr => ?_)
  · first | (obtain ⟨rfl, _⟩ := h; rfl) | (obtain ⟨_, rfl, _⟩ := h; rfl) | (obtain ⟨_, _, rfl, _⟩ := h; rfl) | (obtain ⟨_, _, _, rfl, _⟩ := h; rfl) | (obtain ⟨_, _, _, _, rfl, _⟩ := h; rfl) | (obtain ⟨_, _, _, _, _, rfl, _⟩ := h; rfl) | (obtain ⟨_, _, _, _, _, _, rfl, _⟩ := h; rfl) | (obtain ⟨_, _, _, _, _, _, _, rfl, _⟩ := h; rfl) | (obtain ⟨_, _, _, _, _, _, _, _, rfl, _⟩ := h; rfl)
  · have hr64 := hr.units
    have hc_Shortener := T.c_Shortener
    have hi_Shortener := T.i_Shortener
    have hn_Shortener_limit := T.na_Shortener_limit
    have hn_Shortener_head := T.na_Shortener_head
    have hn_Shortener_tail := T.na_Shortener_tail
    have hn_Shortener_mark := T.na_Shortener_mark
    have hn_Shortener_told := T.na_Shortener_told
    refine ⟨_, (pss_cons (ps_if (PW.pt (pw_or (pt_not (pt_val (pe_callB (call_isiK (K := K) rfl) (by rfl) T.n_isinstance (by decide +kernel) (pa_cons (pv 0) (pa_cons (pe_bt "tuple" rfl T.n_tuple (by decide +kernel)) pa_nil))))) (pw_or1 (pt_cmpR (op_neA (K := K) rfl hr64) (pe_callB (call_lenK (K := K) rfl) (by rfl) T.n_len (by decide +kernel) (pa_cons (pv 0) pa_nil)) pe_int (nomark _))))) (pss_one (ps_ret pe_non)) pss_nil)
        (pss_one (ps_try1 rfl rfl ⟨rfl, by decide, .inl T.m_InputError⟩ (fun E pn xe tk hpo => (pss_one (ps_ret (pe_make T.M_Shortener (okXF_Shortener___init__ T) (hr.mono (by decide)) rfl T.m_Shortener T.b_Shortener___init__ .nil (passX tk) (pa_cons (pe_ix (ix_K (K := K) rfl) (pv 0) pe_int (fun _ _ => rfl)) (pa_cons (pe_ix (ix_K (K := K) rfl) (pv 0) pe_int (fun _ _ => rfl)) (pa_cons (pe_ix (ix_K (K := K) rfl) (pv 0) pe_int (fun _ _ => rfl)) (pa_cons (pe_ix (ix_K (K := K) rfl) (pv 0) pe_int (fun _ _ => rfl)) pa_nil)))))))) (fun a oe pn => (pss_one (ps_ret pe_non)))))), ?_⟩
    refine ⟨_, inferInstance, fun ds M R h => ?_⟩
    obtain ⟨d, rfl, h, q⟩ := h
    walk_at "dx"
    rcases h with h | ⟨xs, rfl, hl⟩ | ⟨a, b, c, m, rfl, h⟩
    · refine notT_isi h ?_
      walk_at "dx"
      exact q
    · refine tup_isi ?_
      walk_at "dx"
      exact q
    · refine tup_isi ?_
      walk_at "dx"
      refine V.x_try1 ?_
      walk_at "dx"
      intro x hx
      refine ⟨x, a, b, c, m, rfl, mset_same, ?_⟩
      have l : Mle M (mset M x (.ins T.C_Shortener [])) := mle_set hx
      have fin : ∀ (n : Nat), sRet (dC D.non) (fun x M' => R D.non M') R (fun _ _ => False) (fun _ _ => False) (List.replicate n none) M := fun n => by
        walk_at "dx"
        exact q
      rcases h with h | ⟨g1, h⟩ | ⟨g1, g2, h⟩ | ⟨g1, g2, g3, h⟩
      · exact .inl ⟨h _, M, l, T.eh_InvalidNumber_InputError, fin⟩
      · exact .inr (.inl ⟨g1, h _, M, l, T.eh_InvalidNumber_InputError, fin⟩)
      · exact .inr (.inr (.inl ⟨g1, g2, h _, M, l, T.eh_InvalidNumber_InputError, fin⟩))
      · exact .inr (.inr (.inr ⟨g1, g2, g3, h _, M, l, T.eh_InvalidMark_InputError, fin⟩))
theorem non_okP : okP 200 0 D.non := ⟨_, by rw [D.py], PyOk.non.mono (by decide) (Nat.le_refl _)⟩
def BadRw (K : PySem.W.Frag) (d : D) : Prop := NotT K d ∨ ∃ x, d = .tup [x] ∧ BadSh K x
def spRowInB (K : PySem.W.Frag) : DC := fun ds M R => ∃ d, ds = [d] ∧ BadRw K d ∧ R .non M
theorem okD_row_in_b (T : Tx K mg) : FnOk P w K mg base L2.CX0 lv_row_in T.f_row_in T.d_row_in p_row_in (lift (spRowInB K)) := by
  refine fnD T.F_row_in sc_row_in (fun ds M R h => ?_) (fun cdv A outer s H E hr => ?_)
  · first | (obtain ⟨rfl, _⟩ := h; rfl) | (obtain ⟨_, rfl, _⟩ := h; rfl) | (obtain ⟨_, _, rfl, _⟩ := h; rfl) | (obtain ⟨_, _, _, rfl, _⟩ := h; rfl) | (obtain ⟨_, _, _, _, rfl, _⟩ := h; rfl) | (obtain ⟨_, _, _, _, _, rfl, _⟩ := h; rfl) | (obtain ⟨_, _, _, _, _, _, rfl, _⟩ := h; rfl) | (obtain ⟨_, _, _, _, _, _, _, rfl, _⟩ := h; rfl) | (obtain ⟨_, _, _, _, _, _, _, _, rfl, _⟩ := h; rfl)
  · have hr64 := hr.units
    have hc_Shortener := T.c_Shortener
    have hi_Shortener := T.i_Shortener
    have hn_Shortener_limit := T.na_Shortener_limit
    have hn_Shortener_head := T.na_Shortener_head
    have hn_Shortener_tail := T.na_Shortener_tail
    have hn_Shortener_mark := T.na_Shortener_mark
    have hn_Shortener_told := T.na_Shortener_told
    refine ⟨_, (pss_cons (ps_if (PW.pt (pw_or (pt_not (pt_val (pe_callB (call_isiK (K := K) rfl) (by rfl) T.n_isinstance (by decide +kernel) (pa_cons (pv 0) (pa_cons (pe_bt "tuple" rfl T.n_tuple (by decide +kernel)) pa_nil))))) (pw_or1 (pt_not (pt_chain op_le op_le pe_int (pe_callB (call_lenK (K := K) rfl) (by rfl) T.n_len (by decide +kernel) (pa_cons (pv 0) pa_nil)) (C8.pe_gc rfl T.k_MOST_ROW)))))) (pss_one (ps_ret pe_non)) pss_nil)
        (pss_cons (ps_setLc (i := 1) (own := [("told", 2)]) rfl sc_row_in.nd rfl rfl (sw_true rfl rfl rfl (by decide +kernel)) (pi_tupK (K := K) rfl (pv 0)) (blkOk_by (N := ["value", "found", "told"]) (sc := L2.defScope s_row_in) (by decide +kernel)) (fun _ _ _ _ _ => (pg_name (i := 2) sc_row_in.nd rfl (by first | exact Or.inl rfl | exact Or.inr rfl))) (fun _ _ _ _ _ => pts_nil) (fun _ _ _ _ _ => (pe_call (okD_shortener_in_b T) (hr.mono (by decide)) rfl T.m_shortener_in T.F_shortener_in.kp T.b_shortener_in .nil pass0 (pa_cons (pv 2) pa_nil))))
        (pss_one (ps_ret (pe_ifExp (pt_cmpR (op_inX (K := K) rfl hr64) pe_non (pv 1) (by rfl)) pe_non (pe_tupOfK (K := K) rfl rfl T.n_tuple (pv 1))))))), ?_⟩
    refine ⟨_, inferInstance, fun ds M R h => ?_⟩
    obtain ⟨d, rfl, h, q⟩ := h
    walk_at "dx"
    rcases h with h | ⟨x, rfl, h⟩
    · refine notT_isi h ?_
      walk_at "dx"
      exact q
    · refine tup_isi ?_
      walk_at "dx"
      refine ⟨by show 1 ≤ 16777216; decide, ?_⟩
      refine gather_all (f := fun _ => .non) ?_ trivial ?_
      · intro y hy Ky hk
        rw [List.mem_singleton.mp hy]
        walk_at "dx"
        exact ⟨x, rfl, h, hk⟩
      walk_at "dx"
      refine ⟨[.non], _, _, _, _, .inl rfl, non_okP, by decide, okPs.cons non_okP (okPs.nil 0 0), ?_⟩
      rw [show ([D.non].any fun z => D.eqb z .non) = true by simp [D.eqb]]
      walk_at "dx"
      exact q
theorem okB_row_in (T : Tx K mg) : FnOk P w K mg base L2.CX0 lv_row_in T.f_row_in T.d_row_in p_row_in (lift fun ds M R => spRowIn T.C_Shortener ds M R ∨ spRowInB K ds M R) := fn_orX (okD_row_in T) (okD_row_in_b T)
/-- not the empty tuple -/
def NotN (K : PySem.W.Frag) (d : D) : Prop := NotT K d ∨ ∃ x xs, d = .tup (x :: xs)
def spNothingB (K : PySem.W.Frag) : DC := fun ds M R => ∃ d, ds = [d] ∧ NotN K d ∧ R (.bl false) M
theorem okD_is_nothing_b (T : Tx K mg) : FnOk P w K mg base L2.CX0 lv_is_nothing T.f_is_nothing T.d_is_nothing p_is_nothing (lift (spNothingB K)) := by
  refine fnD T.F_is_nothing sc_is_nothing (fun ds M R h => ?_) (fun cdv A outer s H E hr => ?_)
  · first | (obtain ⟨rfl, _⟩ := h; rfl) | (obtain ⟨_, rfl, _⟩ := h; rfl) | (obtain ⟨_, _, rfl, _⟩ := h; rfl) | (obtain ⟨_, _, _, rfl, _⟩ := h; rfl) | (obtain ⟨_, _, _, _, rfl, _⟩ := h; rfl) | (obtain ⟨_, _, _, _, _, rfl, _⟩ := h; rfl) | (obtain ⟨_, _, _, _, _, _, rfl, _⟩ := h; rfl) | (obtain ⟨_, _, _, _, _, _, _, rfl, _⟩ := h; rfl) | (obtain ⟨_, _, _, _, _, _, _, _, rfl, _⟩ := h; rfl)
  · have hr64 := hr.units
    have hc_Shortener := T.c_Shortener
    have hi_Shortener := T.i_Shortener
    have hn_Shortener_limit := T.na_Shortener_limit
    have hn_Shortener_head := T.na_Shortener_head
    have hn_Shortener_tail := T.na_Shortener_tail
    have hn_Shortener_mark := T.na_Shortener_mark
    have hn_Shortener_told := T.na_Shortener_told
    refine ⟨_, (pss_one (ps_ret (pe_and (pe_callB (call_isiK (K := K) rfl) (by rfl) T.n_isinstance (by decide +kernel) (pa_cons (pv 0) (pa_cons (pe_bt "tuple" rfl T.n_tuple (by decide +kernel)) pa_nil))) (pe_one (pe_cmpR (op_eqA (K := K) rfl hr64) (pe_callB (call_lenK (K := K) rfl) (by rfl) T.n_len (by decide +kernel) (pa_cons (pv 0) pa_nil)) pe_int (nomark _)))))), ?_⟩
    refine ⟨_, inferInstance, fun ds M R h => ?_⟩
    obtain ⟨d, rfl, h, q⟩ := h
    walk_at "dx"
    rcases h with h | ⟨x, xs, rfl⟩
    · refine notT_isi h ?_
      walk_at "dx"
      exact q
    · refine tup_isi ?_
      walk_at "dx"
      rw [decide_eq_false (show ¬ (((x :: xs).length : Int) = 0) by rw [List.length_cons]; omega)]
      exact q
def BadTwo (K : PySem.W.Frag) (k : Str) (d p : D) : Prop := BadRw K d ∨ ∃ q, d = toldT q ∧ rowOk q ∧ ((k = Str.ofString "alike" ∧ NotN K p) ∨ (k = Str.ofString "unlike" ∧ ∀ M, BadT K M 200 p))
def spTwoB (K : PySem.W.Frag) : DC := fun ds M R => ∃ (k : Str) (a d p x : D), ds = [.tup [.str k, a, d], p, x] ∧ BadTwo K k d p ∧ R (.bl false) M
theorem okD_holds_of_two_b (T : Tx K mg) : FnOk P w K mg base L2.CX0 lv_holds_of_two T.f_holds_of_two T.d_holds_of_two p_holds_of_two (lift (spTwoB K)) := by
  refine fnD T.F_holds_of_two sc_holds_of_two (fun ds M R h => ?_) (fun cdv A outer s H E hr => ?_)
  · first | (obtain ⟨rfl, _⟩ := h; rfl) | (obtain ⟨_, rfl, _⟩ := h; rfl) | (obtain ⟨_, _, rfl, _⟩ := h; rfl) | (obtain ⟨_, _, _, rfl, _⟩ := h; rfl) | (obtain ⟨_, _, _, _, rfl, _⟩ := h; rfl) | (obtain ⟨_, _, _, _, _, rfl, _⟩ := h; rfl) | (obtain ⟨_, _, _, _, _, _, rfl, _⟩ := h; rfl) | (obtain ⟨_, _, _, _, _, _, _, rfl, _⟩ := h; rfl) | (obtain ⟨_, _, _, _, _, _, _, _, rfl, _⟩ := h; rfl)
  · have hr64 := hr.units
    have hc_Shortener := T.c_Shortener
    have hi_Shortener := T.i_Shortener
    have hn_Shortener_limit := T.na_Shortener_limit
    have hn_Shortener_head := T.na_Shortener_head
    have hn_Shortener_tail := T.na_Shortener_tail
    have hn_Shortener_mark := T.na_Shortener_mark
    have hn_Shortener_told := T.na_Shortener_told
    refine ⟨_, (pss_cons (ps_set (i := 3) sc_holds_of_two.nd rfl (by first | exact Or.inl rfl | exact Or.inr rfl) (pe_call (okB_row_in T) (hr.mono (by decide)) rfl T.m_row_in T.F_row_in.kp T.b_row_in .nil pass0 (pa_cons (pe_ix (ix_K (K := K) rfl) (pv 0) pe_int (fun _ _ => rfl)) pa_nil)))
        (pss_cons (ps_if (pt_cmpR op_isN1 (pv 3) pe_non (nomark _)) (pss_one (ps_ret pe_bl)) pss_nil)
        (pss_cons (ps_if (pt_cmpR (op_eqA (K := K) rfl hr64) (pe_ix (ix_K (K := K) rfl) (pv 0) pe_int (fun _ _ => rfl)) pe_str (nomark _)) (pss_one (ps_ret (pe_and (pe_call (okD_is_nothing_b T) (hr.mono (by decide)) rfl T.m_is_nothing T.F_is_nothing.kp T.b_is_nothing .nil pass0 (pa_cons (pv 1) pa_nil)) (pe_one (pe_cmpR op_isN1 (pe_call (okD_first_unlike (w := w) T) (hr.mono (by decide)) rfl T.m_first_unlike T.F_first_unlike.kp T.b_first_unlike .nil pass0 (pa_cons (pv 2) (pa_cons (pv 3) pa_nil))) pe_non (nomark _)))))) pss_nil)
        (pss_one (ps_ret (pe_and (pe_call (okD_is_text (w := w) T) (hr.mono (by decide)) rfl T.m_is_text T.F_is_text.kp T.b_is_text .nil pass0 (pa_cons (pv 1) (pa_cons (C8.pe_gc rfl T.k_MOST_TEXT) pa_nil))) (pe_one (pe_cmpR (op_neA (K := K) rfl hr64) (pe_call (okD_shown_by (w := w) T) (hr.mono (by decide)) rfl T.m_shown_by T.F_shown_by.kp T.b_shown_by .nil pass0 (pa_cons (pv 2) (pa_cons (pv 1) pa_nil))) (pe_call (okD_shown_by (w := w) T) (hr.mono (by decide)) rfl T.m_shown_by T.F_shown_by.kp T.b_shown_by .nil pass0 (pa_cons (pv 3) (pa_cons (pv 1) pa_nil))) (nomark _))))))))), ?_⟩
    refine ⟨_, inferInstance, fun ds M R h => ?_⟩
    obtain ⟨k, a, d, p, x, rfl, h, q⟩ := h
    walk_at "dx"
    rcases h with h | ⟨r, rfl, hr1, h⟩
    · refine .inr ⟨d, rfl, h, ?_⟩
      walk_at "dx"
      simp only [V.isNon, if_true]
      walk_at "dx"
      exact q
    · refine .inl ⟨r, rfl, hr1, ?_⟩
      walk_at "dx"
      rw [show V.isNon (rowD T.C_Shortener r) = false from rfl]
      walk_at "dx"
      rcases h with ⟨rfl, h⟩ | ⟨rfl, h⟩
      · rw [decide_eq_true rfl]
        walk_at "dx"
        refine ⟨p, rfl, h, ?_⟩
        walk_at "dx"
        exact q
      · rw [decide_eq_false unlike_ne]
        walk_at "dx"
        refine badT_is (n := 200) (h _) ?_
        walk_at "dx"
        exact q
def BadOne (K : PySem.W.Frag) (k : Str) (p : D) : Prop := (k = Str.ofString "stable" ∧ NotN K p) ∨ (k = Str.ofString "unstable" ∧ ∀ M, BadT K M 200 p)
def spOneB (K : PySem.W.Frag) : DC := fun ds M R => ∃ (k : Str) (a p x : D), ds = [.tup [.str k, a], p, x] ∧ BadOne K k p ∧ R (.bl false) M
theorem okD_holds_of_one_b (T : Tx K mg) : FnOk P w K mg base L2.CX0 lv_holds_of_one T.f_holds_of_one T.d_holds_of_one p_holds_of_one (lift (spOneB K)) := by
  refine fnD T.F_holds_of_one sc_holds_of_one (fun ds M R h => ?_) (fun cdv A outer s H E hr => ?_)
  · first | (obtain ⟨rfl, _⟩ := h; rfl) | (obtain ⟨_, rfl, _⟩ := h; rfl) | (obtain ⟨_, _, rfl, _⟩ := h; rfl) | (obtain ⟨_, _, _, rfl, _⟩ := h; rfl) | (obtain ⟨_, _, _, _, rfl, _⟩ := h; rfl) | (obtain ⟨_, _, _, _, _, rfl, _⟩ := h; rfl) | (obtain ⟨_, _, _, _, _, _, rfl, _⟩ := h; rfl) | (obtain ⟨_, _, _, _, _, _, _, rfl, _⟩ := h; rfl) | (obtain ⟨_, _, _, _, _, _, _, _, rfl, _⟩ := h; rfl)
  · have hr64 := hr.units
    have hc_Shortener := T.c_Shortener
    have hi_Shortener := T.i_Shortener
    have hn_Shortener_limit := T.na_Shortener_limit
    have hn_Shortener_head := T.na_Shortener_head
    have hn_Shortener_tail := T.na_Shortener_tail
    have hn_Shortener_mark := T.na_Shortener_mark
    have hn_Shortener_told := T.na_Shortener_told
    refine ⟨_, (pss_cons (ps_if (pt_cmpR (op_eqA (K := K) rfl hr64) (pe_ix (ix_K (K := K) rfl) (pv 0) pe_int (fun _ _ => rfl)) pe_str (nomark _)) (pss_one (ps_ret (pe_and (pe_call (okD_is_nothing_b T) (hr.mono (by decide)) rfl T.m_is_nothing T.F_is_nothing.kp T.b_is_nothing .nil pass0 (pa_cons (pv 1) pa_nil)) (pe_one (pe_cmpR op_isN1 (pe_call (okD_first_unstable (w := w) T) (hr.mono (by decide)) rfl T.m_first_unstable T.F_first_unstable.kp T.b_first_unstable .nil pass0 (pa_cons (pv 2) pa_nil)) pe_non (nomark _)))))) pss_nil)
        (pss_cons (ps_if (pt_not (pt_val (pe_call (okD_is_text (w := w) T) (hr.mono (by decide)) rfl T.m_is_text T.F_is_text.kp T.b_is_text .nil pass0 (pa_cons (pv 1) (pa_cons (C8.pe_gc rfl T.k_MOST_TEXT) pa_nil))))) (pss_one (ps_ret pe_bl)) pss_nil)
        (pss_cons (ps_set (i := 3) sc_holds_of_one.nd rfl (by first | exact Or.inl rfl | exact Or.inr rfl) (pe_call (okD_shown_by (w := w) T) (hr.mono (by decide)) rfl T.m_shown_by T.F_shown_by.kp T.b_shown_by .nil pass0 (pa_cons (pv 2) (pa_cons (pv 1) pa_nil))))
        (pss_one (ps_ret (pe_cmpR (op_neA (K := K) rfl hr64) (pe_call (okD_shown_by (w := w) T) (hr.mono (by decide)) rfl T.m_shown_by T.F_shown_by.kp T.b_shown_by .nil pass0 (pa_cons (pv 2) (pa_cons (pv 3) pa_nil))) (pv 3) (nomark _))))))), ?_⟩
    refine ⟨_, inferInstance, fun ds M R h => ?_⟩
    obtain ⟨k, a, p, x, rfl, h, q⟩ := h
    walk_at "dx"
    rcases h with ⟨rfl, h⟩ | ⟨rfl, h⟩
    · rw [decide_eq_true rfl]
      walk_at "dx"
      refine ⟨p, rfl, h, ?_⟩
      walk_at "dx"
      exact q
    · rw [decide_eq_false unstable_ne]
      walk_at "dx"
      refine badT_is (n := 200) (h _) ?_
      walk_at "dx"
      exact q
def BadPair (K : PySem.W.Frag) (p : D) : Prop := NotT K p ∨ ∃ xs, p = .tup xs ∧ xs.length ≠ 2
def spPairB (K : PySem.W.Frag) : DC := fun ds M R => ∃ (p x : D), ds = [p, x] ∧ BadPair K p ∧ R (.bl false) M
theorem okD_holds_of_pair_b (T : Tx K mg) : FnOk P w K mg base L2.CX0 lv_holds_of_pair T.f_holds_of_pair T.d_holds_of_pair p_holds_of_pair (lift (spPairB K)) := by
  refine fnD T.F_holds_of_pair sc_holds_of_pair (fun ds M R h => ?_) (fun cdv A outer s H E hr => ?_)
  · first | (obtain ⟨rfl, _⟩ := h; rfl) | (obtain ⟨_, rfl, _⟩ := h; rfl) | (obtain ⟨_, _, rfl, _⟩ := h; rfl) | (obtain ⟨_, _, _, rfl, _⟩ := h; rfl) | (obtain ⟨_, _, _, _, rfl, _⟩ := h; rfl) | (obtain ⟨_, _, _, _, _, rfl, _⟩ := h; rfl) | (obtain ⟨_, _, _, _, _, _, rfl, _⟩ := h; rfl) | (obtain ⟨_, _, _, _, _, _, _, rfl, _⟩ := h; rfl) | (obtain ⟨_, _, _, _, _, _, _, _, rfl, _⟩ := h; rfl)
  · have hr64 := hr.units
    have hc_Shortener := T.c_Shortener
    have hi_Shortener := T.i_Shortener
    have hn_Shortener_limit := T.na_Shortener_limit
    have hn_Shortener_head := T.na_Shortener_head
    have hn_Shortener_tail := T.na_Shortener_tail
    have hn_Shortener_mark := T.na_Shortener_mark
    have hn_Shortener_told := T.na_Shortener_told
    refine ⟨_, (pss_cons (ps_if (PW.pt (pw_or (pt_not (pt_val (pe_callB (call_isiK (K := K) rfl) (by rfl) T.n_isinstance (by decide +kernel) (pa_cons (pv 0) (pa_cons (pe_bt "tuple" rfl T.n_tuple (by decide +kernel)) pa_nil))))) (pw_or (pt_cmpR (op_neA (K := K) rfl hr64) (pe_callB (call_lenK (K := K) rfl) (by rfl) T.n_len (by decide +kernel) (pa_cons (pv 0) pa_nil)) pe_int (nomark _)) (pw_or1 (pt_not (pt_val (pe_callB (cr_allK (K := K) rfl rfl) (by rfl) T.n_all (by decide +kernel) (pa_cons (pe_lc (own := [("text", 2)]) rfl sc_holds_of_pair.nd (pi_tupK (K := K) rfl (pv 0)) (blkOk_by (N := ["paper", "row", "text"]) (sc := L2.defScope s_holds_of_pair) (by decide +kernel)) (fun _ _ _ _ _ => (pg_name (i := 2) sc_holds_of_pair.nd rfl (by first | exact Or.inl rfl | exact Or.inr rfl))) (fun _ _ _ _ _ => pts_nil) (fun _ _ _ _ _ => (pe_call (okD_is_text (w := w) T) (hr.mono (by decide)) rfl T.m_is_text T.F_is_text.kp T.b_is_text .nil pass0 (pa_cons (pv 2) (pa_cons (C8.pe_gc rfl T.k_MOST_TEXT) pa_nil))))) pa_nil)))))))) (pss_one (ps_ret pe_bl)) pss_nil)
        (pss_one (ps_ret (pe_and (pe_cmpR (op_neA (K := K) rfl hr64) (pe_ix (ix_K (K := K) rfl) (pv 0) pe_int (fun _ _ => rfl)) (pe_ix (ix_K (K := K) rfl) (pv 0) pe_int (fun _ _ => rfl)) (nomark _)) (pe_one (pe_cmpR (op_eqA (K := K) rfl hr64) (pe_call (okD_shown_by (w := w) T) (hr.mono (by decide)) rfl T.m_shown_by T.F_shown_by.kp T.b_shown_by .nil pass0 (pa_cons (pv 1) (pa_cons (pe_ix (ix_K (K := K) rfl) (pv 0) pe_int (fun _ _ => rfl)) pa_nil))) (pe_call (okD_shown_by (w := w) T) (hr.mono (by decide)) rfl T.m_shown_by T.F_shown_by.kp T.b_shown_by .nil pass0 (pa_cons (pv 1) (pa_cons (pe_ix (ix_K (K := K) rfl) (pv 0) pe_int (fun _ _ => rfl)) pa_nil))) (nomark _))))))), ?_⟩
    refine ⟨_, inferInstance, fun ds M R h => ?_⟩
    obtain ⟨p, x, rfl, h, q⟩ := h
    walk_at "dx"
    rcases h with h | ⟨xs, rfl, h⟩
    · refine notT_isi h ?_
      walk_at "dx"
      exact q
    · refine tup_isi ?_
      walk_at "dx"
      exact q
def BadShown (K : PySem.W.Frag) (k : Str) (d e p : D) : Prop := (∀ M, BadT K M 200 d) ∨ ∃ y, d = .str y ∧ okText 200 y = true ∧ ((∀ M, BadN K M 500 e) ∨ ∃ n : Nat, e = .int n ∧ n ≤ 500 ∧ ((k = Str.ofString "impossible" ∧ NotN K p) ∨ (k = Str.ofString "possible" ∧ ∀ M, BadT K M 500 p)))
def spShownB (K : PySem.W.Frag) : DC := fun ds M R => ∃ (k : Str) (a d e p x : D), ds = [.tup [.str k, a, d, e], p, x] ∧ BadShown K k d e p ∧ R (.bl false) M
theorem okD_holds_of_shown_b (T : Tx K mg) : FnOk P w K mg base L2.CX0 lv_holds_of_shown T.f_holds_of_shown T.d_holds_of_shown p_holds_of_shown (lift (spShownB K)) := by
  refine fnDW T.F_holds_of_shown sc_holds_of_shown (fun ds M R h => ?_) (fun cdv A outer s H E hr => ?_)
  · first | (obtain ⟨rfl, _⟩ := h; rfl) | (obtain ⟨_, rfl, _⟩ := h; rfl) | (obtain ⟨_, _, rfl, _⟩ := h; rfl) | (obtain ⟨_, _, _, rfl, _⟩ := h; rfl) | (obtain ⟨_, _, _, _, rfl, _⟩ := h; rfl) | (obtain ⟨_, _, _, _, _, rfl, _⟩ := h; rfl) | (obtain ⟨_, _, _, _, _, _, rfl, _⟩ := h; rfl) | (obtain ⟨_, _, _, _, _, _, _, rfl, _⟩ := h; rfl) | (obtain ⟨_, _, _, _, _, _, _, _, rfl, _⟩ := h; rfl)
  · have hr64 := hr.units
    have hc_Shortener := T.c_Shortener
    have hi_Shortener := T.i_Shortener
    have hn_Shortener_limit := T.na_Shortener_limit
    have hn_Shortener_head := T.na_Shortener_head
    have hn_Shortener_tail := T.na_Shortener_tail
    have hn_Shortener_mark := T.na_Shortener_mark
    have hn_Shortener_told := T.na_Shortener_told
    refine ⟨_, (pss_cons (ps_if (PW.pt (pw_or (pt_not (pt_val (pe_call (okD_is_text (w := w) T) (hr.mono (by decide)) rfl T.m_is_text T.F_is_text.kp T.b_is_text .nil pass0 (pa_cons (pe_ix (ix_K (K := K) rfl) (pv 0) pe_int (fun _ _ => rfl)) (pa_cons (C8.pe_gc rfl T.k_MOST_TEXT) pa_nil))))) (pw_or1 (pt_not (pt_val (pe_call (okB_is_length T) (hr.mono (by decide)) rfl T.m_is_length T.F_is_length.kp T.b_is_length .nil pass0 (pa_cons (pe_ix (ix_K (K := K) rfl) (pv 0) pe_int (fun _ _ => rfl)) pa_nil))))))) (pss_one (ps_ret pe_bl)) pss_nil)
        (pss_cons (ps_if (pt_cmpR (op_eqA (K := K) rfl hr64) (pe_ix (ix_K (K := K) rfl) (pv 0) pe_int (fun _ _ => rfl)) pe_str (nomark _)) (pss_one (ps_ret (pe_and (pe_call (okD_is_nothing_b T) (hr.mono (by decide)) rfl T.m_is_nothing T.F_is_nothing.kp T.b_is_nothing .nil pass0 (pa_cons (pv 1) pa_nil)) (pe_one (pe_cmpR op_isN1 (pe_call (okD_known_signs (w := w) T) (hr.mono (by decide)) rfl T.m_known_signs T.F_known_signs.kp T.b_known_signs .nil pass0 (pa_cons (pe_tup (pa_cons (pe_tup (pa_cons (pv 2) (pa_cons (pe_ix (ix_K (K := K) rfl) (pv 0) pe_int (fun _ _ => rfl)) pa_nil))) pa_nil)) (pa_cons (pe_ix (ix_K (K := K) rfl) (pv 0) pe_int (fun _ _ => rfl)) pa_nil))) pe_non (nomark _)))))) pss_nil)
        (pss_one (ps_ret (pe_and (pe_call (okD_is_text (w := w) T) (hr.mono (by decide)) rfl T.m_is_text T.F_is_text.kp T.b_is_text .nil pass0 (pa_cons (pv 1) (pa_cons (C8.pe_gc rfl T.k_MOST_LENGTH) pa_nil))) (pe_and (pe_cmpR (op_eqA (K := K) rfl hr64) (pe_callB (call_lenK (K := K) rfl) (by rfl) T.n_len (by decide +kernel) (pa_cons (pv 1) pa_nil)) (pe_ix (ix_K (K := K) rfl) (pv 0) pe_int (fun _ _ => rfl)) (nomark _)) (pe_one (pe_cmpR (op_eqA (K := K) rfl hr64) (pe_call (okD_shown_by (w := w) T) (hr.mono (by decide)) rfl T.m_shown_by T.F_shown_by.kp T.b_shown_by .nil pass0 (pa_cons (pv 2) (pa_cons (pv 1) pa_nil))) (pe_ix (ix_K (K := K) rfl) (pv 0) pe_int (fun _ _ => rfl)) (nomark _))))))))), ?_⟩
    refine ⟨_, inferInstance, fun ds M R h => ?_⟩
    obtain ⟨k, a, d, e, p, x, rfl, h, q⟩ := h
    walk_at "dx"
    rcases h with h | ⟨y, rfl, hy, h⟩
    · refine badT_is (n := 200) (h _) ?_
      walk_at "dx"
      exact ⟨M, mle_refl, q⟩
    · refine ⟨_, 200, rfl, .inl ⟨y, rfl, by have := (okText_iff.mp hy).1; omega, ?_⟩⟩
      rw [hy]
      walk_at "dx"
      rcases h with h | ⟨n, rfl, hn, h⟩
      · refine .inr ⟨e, rfl, h _, ?_⟩
        walk_at "dx"
        exact ⟨M, mle_refl, q⟩
      · refine .inl ⟨n, rfl, hn, ?_⟩
        walk_at "dx"
        rcases h with ⟨rfl, h⟩ | ⟨rfl, h⟩
        · rw [decide_eq_true rfl]
          walk_at "dx"
          refine ⟨p, rfl, h, ?_⟩
          walk_at "dx"
          exact ⟨M, mle_refl, q⟩
        · rw [decide_eq_false possible_ne]
          walk_at "dx"
          refine badT_is (n := 500) (h _) ?_
          walk_at "dx"
          exact ⟨M, mle_refl, q⟩
theorem at0 {x : D} {xs : List D} : atI (x :: xs) 0 = some x := by
  unfold atI ixN
  rw [if_pos (by omega), if_pos (by rw [List.length_cons]; omega)]
  rfl
theorem at1 {x y : D} {xs : List D} : atI (x :: y :: xs) 1 = some y := by
  unfold atI ixN
  rw [if_pos (by omega), if_pos (by rw [List.length_cons, List.length_cons]; omega)]
  rfl
/-- a claim and a paper that do not hold by their form -/
inductive BadH (K : PySem.W.Frag) : D → D → Prop
  | notT {c p : D} (h : NotT K c) : BadH K c p
  | short {xs : List D} {p : D} (h : xs.length < 2) : BadH K (.tup xs) p
  | kind {x y : D} {xs : List D} {p : D} (h : NotS K x) : BadH K (.tup (x :: y :: xs)) p
  | form {k : Str} {y : D} {xs : List D} {p : D} (j : Int) (hk : (k, j) ∈ formL) (hl : ((xs.length + 2 : Nat) : Int) ≠ j) : BadH K (.tup (.str k :: y :: xs)) p
  | noform {k : Str} {y : D} {xs : List D} {p : D} (hk : k ∈ missL) : BadH K (.tup (.str k :: y :: xs)) p
  | row {k : Str} {y : D} {xs : List D} {p : D} (hk : (k, ((xs.length + 2 : Nat) : Int)) ∈ formL) (h : BadRw K y) : BadH K (.tup (.str k :: y :: xs)) p
  | two {k : Str} {r : List Sh} {d p : D} (hk : k = Str.ofString "alike" ∨ k = Str.ofString "unlike") (hr : rowOk r) (h : BadTwo K k d p) : BadH K (.tup [.str k, toldT r, d]) p
  | one {k : Str} {r : List Sh} {p : D} (hk : k = Str.ofString "stable" ∨ k = Str.ofString "unstable") (hr : rowOk r) (h : BadOne K k p) : BadH K (.tup [.str k, toldT r]) p
  | pair {r : List Sh} {p : D} (hr : rowOk r) (h : BadPair K p) : BadH K (.tup [.str (Str.ofString "confused"), toldT r]) p
  | shown {k : Str} {r : List Sh} {d e p : D} (hk : k = Str.ofString "possible" ∨ k = Str.ofString "impossible") (hr : rowOk r) (h : BadShown K k d e p) : BadH K (.tup [.str k, toldT r, d, e]) p
end
section
variable {P : Program} {w : World} {K : PySem.W.Frag} {mg : Str → Option Value} {base : Heap} [V.KDs K w "FORMS"]
def spHoldsB (K : PySem.W.Frag) : DC := fun ds M R => ∃ (c p : D), ds = [c, p] ∧ BadH K c p ∧ R (.bl false) M
theorem okD_holds_b (T : Tx K mg) : FnOk P w K mg base L2.CX0 lv_holds T.f_holds T.d_holds p_holds (lift (spHoldsB K)) := by
  refine fnD T.F_holds sc_holds (fun ds M R h => ?_) (fun cdv A outer s H E hr => ?_)
  · first | (obtain ⟨rfl, _⟩ := h; rfl) | (obtain ⟨_, rfl, _⟩ := h; rfl) | (obtain ⟨_, _, rfl, _⟩ := h; rfl) | (obtain ⟨_, _, _, rfl, _⟩ := h; rfl) | (obtain ⟨_, _, _, _, rfl, _⟩ := h; rfl) | (obtain ⟨_, _, _, _, _, rfl, _⟩ := h; rfl) | (obtain ⟨_, _, _, _, _, _, rfl, _⟩ := h; rfl) | (obtain ⟨_, _, _, _, _, _, _, rfl, _⟩ := h; rfl) | (obtain ⟨_, _, _, _, _, _, _, _, rfl, _⟩ := h; rfl)
  · have hr64 := hr.units
    have hc_Shortener := T.c_Shortener
    have hi_Shortener := T.i_Shortener
    have hn_Shortener_limit := T.na_Shortener_limit
    have hn_Shortener_head := T.na_Shortener_head
    have hn_Shortener_tail := T.na_Shortener_tail
    have hn_Shortener_mark := T.na_Shortener_mark
    have hn_Shortener_told := T.na_Shortener_told
    refine ⟨_, (pss_cons (ps_if (PW.pt (pw_or (pt_not (pt_val (pe_callB (call_isiK (K := K) rfl) (by rfl) T.n_isinstance (by decide +kernel) (pa_cons (pv 0) (pa_cons (pe_bt "tuple" rfl T.n_tuple (by decide +kernel)) pa_nil))))) (pw_or (pt_cmpR op_ltU (pe_callB (call_lenK (K := K) rfl) (by rfl) T.n_len (by decide +kernel) (pa_cons (pv 0) pa_nil)) pe_int (nomark _)) (pw_or1 (pt_not (pt_val (pe_callB (call_isiK (K := K) rfl) (by rfl) T.n_isinstance (by decide +kernel) (pa_cons (pe_ix (ix_K (K := K) rfl) (pv 0) pe_int (fun _ _ => rfl)) (pa_cons (pe_bt "str" rfl T.n_str (by decide +kernel)) pa_nil))))))))) (pss_one (ps_ret pe_bl)) pss_nil)
        (pss_cons (ps_if (pt_cmpR (op_neA (K := K) rfl hr64) (pe_callB (call_lenK (K := K) rfl) (by rfl) T.n_len (by decide +kernel) (pa_cons (pv 0) pa_nil)) (pe_kget2 (K := K) (w := w) rfl rfl T.t_FORMS T.o_FORMS (pe_gref rfl T.m_FORMS) (pe_ix (ix_K (K := K) rfl) (pv 0) pe_int (fun _ _ => rfl)) ⟨rfl, rfl, rfl, rfl⟩) (nomark _)) (pss_one (ps_ret pe_bl)) pss_nil)
        (pss_cons (ps_set (i := 2) sc_holds.nd rfl (by first | exact Or.inl rfl | exact Or.inr rfl) (pe_call (okB_row_in T) (hr.mono (by decide)) rfl T.m_row_in T.F_row_in.kp T.b_row_in .nil pass0 (pa_cons (pe_ix (ix_K (K := K) rfl) (pv 0) pe_int (fun _ _ => rfl)) pa_nil)))
        (pss_cons (ps_if (pt_cmpR op_isN1 (pv 2) pe_non (nomark _)) (pss_one (ps_ret pe_bl)) pss_nil)
        (pss_cons (ps_if (pt_cmpR (op_inK (K := K) rfl) (pe_ix (ix_K (K := K) rfl) (pv 0) pe_int (fun _ _ => rfl)) (pe_tup (pa_cons pe_str (pa_cons pe_str pa_nil))) (by rfl)) (pss_one (ps_ret (pe_call (okD_holds_of_two_b T) (hr.mono (by decide)) rfl T.m_holds_of_two T.F_holds_of_two.kp T.b_holds_of_two .nil pass0 (pa_cons (pv 0) (pa_cons (pv 1) (pa_cons (pv 2) pa_nil)))))) pss_nil)
        (pss_cons (ps_if (pt_cmpR (op_inK (K := K) rfl) (pe_ix (ix_K (K := K) rfl) (pv 0) pe_int (fun _ _ => rfl)) (pe_tup (pa_cons pe_str (pa_cons pe_str pa_nil))) (by rfl)) (pss_one (ps_ret (pe_call (okD_holds_of_one_b T) (hr.mono (by decide)) rfl T.m_holds_of_one T.F_holds_of_one.kp T.b_holds_of_one .nil pass0 (pa_cons (pv 0) (pa_cons (pv 1) (pa_cons (pv 2) pa_nil)))))) pss_nil)
        (pss_one (ps_ret (pe_ifExp (pt_cmpR (op_eqA (K := K) rfl hr64) (pe_ix (ix_K (K := K) rfl) (pv 0) pe_int (fun _ _ => rfl)) pe_str (nomark _)) (pe_call (okD_holds_of_pair_b T) (hr.mono (by decide)) rfl T.m_holds_of_pair T.F_holds_of_pair.kp T.b_holds_of_pair .nil pass0 (pa_cons (pv 1) (pa_cons (pv 2) pa_nil))) (pe_call (okD_holds_of_shown_b T) (hr.mono (by decide)) rfl T.m_holds_of_shown T.F_holds_of_shown.kp T.b_holds_of_shown .nil pass0 (pa_cons (pv 0) (pa_cons (pv 1) (pa_cons (pv 2) pa_nil))))))))))))), ?_⟩
    refine ⟨_, inferInstance, fun ds M R h => ?_⟩
    obtain ⟨c, p, rfl, h, q⟩ := h
    cases h with
    | notT h =>
      walk_at "dx"
      refine notT_isi h ?_
      walk_at "dx"
      exact q
    | @short xs _ h =>
      walk_at "dx"
      refine tup_isi ?_
      walk_at "dx"
      exact q
    | @kind x y xs _ h =>
      walk_at "dx"
      refine tup_isi ?_
      walk_at "dx"
      refine V.x_ixT at0 ?_
      walk_at "dx"
      refine notS_isi h ?_
      walk_at "dx"
      exact q
    | @form k y xs _ j hk hl =>
      walk_at "dx"
      refine tup_isi ?_
      walk_at "dx"
      refine V.x_ixT at0 ?_
      walk_at "dx"
      refine str_isi ?_
      walk_at "dx"
      refine V.x_kget2 ?_
      walk_at "dx"
      refine V.x_ixT at0 ?_
      refine .inl ⟨(k, j), hk, rfl, ?_⟩
      walk_at "dx"
      exact q
    | @noform k y xs _ hk =>
      walk_at "dx"
      refine tup_isi ?_
      walk_at "dx"
      refine V.x_ixT at0 ?_
      walk_at "dx"
      refine str_isi ?_
      walk_at "dx"
      refine V.x_kget2 ?_
      walk_at "dx"
      refine V.x_ixT at0 ?_
      refine .inr ⟨k, hk, rfl, ?_⟩
      walk_at "dx"
      exact q
    | @row k y xs _ hk hb =>
      walk_at "dx"
      refine tup_isi ?_
      walk_at "dx"
      refine V.x_ixT at0 ?_
      walk_at "dx"
      refine str_isi ?_
      walk_at "dx"
      refine V.x_kget2 ?_
      walk_at "dx"
      refine V.x_ixT at0 ?_
      refine .inl ⟨_, hk, rfl, ?_⟩
      walk_at "dx"
      refine x_iten (fun c => absurd rfl c) (fun _ => ?_)
      walk_at "dx"
      refine V.x_ixT at1 ?_
      walk_at "dx"
      refine .inr ⟨y, rfl, hb, ?_⟩
      walk_at "dx"
      simp only [V.isNon, if_true]
      walk_at "dx"
      exact q
    | @two k r d _ hk hr hb => 
      rcases hk with rfl | rfl
      · walk_at "dx"
        refine tup_isi ?_
        walk_at "dx"
        refine str_isi ?_
        walk_at "dx"
        refine V.x_kget2 ?_
        walk_at "dx"
        refine .inl ⟨(Str.ofString "alike", 3), by simp, rfl, ?_⟩
        walk_at "dx"
        refine .inl ⟨r, rfl, hr, ?_⟩
        walk_at "dx"
        rw [show V.isNon (rowD T.C_Shortener r) = false from rfl]
        walk_at "dx"
        refine ⟨_, .inr (.inl rfl), rfl, rfl, ?_⟩
        rw [any2, show (decide (Str.ofString "alike" = Str.ofString "alike") || decide (Str.ofString "unlike" = Str.ofString "alike")) = true by decide +kernel]
        walk_at "dx"
        exact ⟨_, _, d, p, _, rfl, hb, q⟩
      · walk_at "dx"
        refine tup_isi ?_
        walk_at "dx"
        refine str_isi ?_
        walk_at "dx"
        refine V.x_kget2 ?_
        walk_at "dx"
        refine .inl ⟨(Str.ofString "unlike", 3), by simp, rfl, ?_⟩
        walk_at "dx"
        refine .inl ⟨r, rfl, hr, ?_⟩
        walk_at "dx"
        rw [show V.isNon (rowD T.C_Shortener r) = false from rfl]
        walk_at "dx"
        refine ⟨_, .inr (.inl rfl), rfl, rfl, ?_⟩
        rw [any2, show (decide (Str.ofString "alike" = Str.ofString "unlike") || decide (Str.ofString "unlike" = Str.ofString "unlike")) = true by decide +kernel]
        walk_at "dx"
        exact ⟨_, _, d, p, _, rfl, hb, q⟩
    | @one k r _ hk hr hb => 
      rcases hk with rfl | rfl
      · walk_at "dx"
        refine tup_isi ?_
        walk_at "dx"
        refine str_isi ?_
        walk_at "dx"
        refine V.x_kget2 ?_
        walk_at "dx"
        refine .inl ⟨(Str.ofString "stable", 2), by simp, rfl, ?_⟩
        walk_at "dx"
        refine .inl ⟨r, rfl, hr, ?_⟩
        walk_at "dx"
        rw [show V.isNon (rowD T.C_Shortener r) = false from rfl]
        walk_at "dx"
        refine ⟨_, .inr (.inl rfl), rfl, rfl, ?_⟩
        rw [any2, show (decide (Str.ofString "alike" = Str.ofString "stable") || decide (Str.ofString "unlike" = Str.ofString "stable")) = false by decide +kernel]
        walk_at "dx"
        refine ⟨_, .inr (.inl rfl), rfl, rfl, ?_⟩
        rw [any2, show (decide (Str.ofString "stable" = Str.ofString "stable") || decide (Str.ofString "unstable" = Str.ofString "stable")) = true by decide +kernel]
        walk_at "dx"
        exact ⟨_, _, p, _, rfl, hb, q⟩
      · walk_at "dx"
        refine tup_isi ?_
        walk_at "dx"
        refine str_isi ?_
        walk_at "dx"
        refine V.x_kget2 ?_
        walk_at "dx"
        refine .inl ⟨(Str.ofString "unstable", 2), by simp, rfl, ?_⟩
        walk_at "dx"
        refine .inl ⟨r, rfl, hr, ?_⟩
        walk_at "dx"
        rw [show V.isNon (rowD T.C_Shortener r) = false from rfl]
        walk_at "dx"
        refine ⟨_, .inr (.inl rfl), rfl, rfl, ?_⟩
        rw [any2, show (decide (Str.ofString "alike" = Str.ofString "unstable") || decide (Str.ofString "unlike" = Str.ofString "unstable")) = false by decide +kernel]
        walk_at "dx"
        refine ⟨_, .inr (.inl rfl), rfl, rfl, ?_⟩
        rw [any2, show (decide (Str.ofString "stable" = Str.ofString "unstable") || decide (Str.ofString "unstable" = Str.ofString "unstable")) = true by decide +kernel]
        walk_at "dx"
        exact ⟨_, _, p, _, rfl, hb, q⟩
    | @pair r _ hr hb => 
      walk_at "dx"
      refine tup_isi ?_
      walk_at "dx"
      refine str_isi ?_
      walk_at "dx"
      refine V.x_kget2 ?_
      walk_at "dx"
      refine .inl ⟨(Str.ofString "confused", 2), by simp, rfl, ?_⟩
      walk_at "dx"
      refine .inl ⟨r, rfl, hr, ?_⟩
      walk_at "dx"
      rw [show V.isNon (rowD T.C_Shortener r) = false from rfl]
      walk_at "dx"
      refine ⟨_, .inr (.inl rfl), rfl, rfl, ?_⟩
      rw [any2, show (decide (Str.ofString "alike" = Str.ofString "confused") || decide (Str.ofString "unlike" = Str.ofString "confused")) = false by decide +kernel]
      walk_at "dx"
      refine ⟨_, .inr (.inl rfl), rfl, rfl, ?_⟩
      rw [any2, show (decide (Str.ofString "stable" = Str.ofString "confused") || decide (Str.ofString "unstable" = Str.ofString "confused")) = false by decide +kernel]
      walk_at "dx"
      rw [decide_eq_true rfl]
      walk_at "dx"
      exact ⟨p, _, rfl, hb, q⟩
    | @shown k r d e _ hk hr hb => 
      rcases hk with rfl | rfl
      · walk_at "dx"
        refine tup_isi ?_
        walk_at "dx"
        refine str_isi ?_
        walk_at "dx"
        refine V.x_kget2 ?_
        walk_at "dx"
        refine .inl ⟨(Str.ofString "possible", 4), by simp, rfl, ?_⟩
        walk_at "dx"
        refine .inl ⟨r, rfl, hr, ?_⟩
        walk_at "dx"
        rw [show V.isNon (rowD T.C_Shortener r) = false from rfl]
        walk_at "dx"
        refine ⟨_, .inr (.inl rfl), rfl, rfl, ?_⟩
        rw [any2, show (decide (Str.ofString "alike" = Str.ofString "possible") || decide (Str.ofString "unlike" = Str.ofString "possible")) = false by decide +kernel]
        walk_at "dx"
        refine ⟨_, .inr (.inl rfl), rfl, rfl, ?_⟩
        rw [any2, show (decide (Str.ofString "stable" = Str.ofString "possible") || decide (Str.ofString "unstable" = Str.ofString "possible")) = false by decide +kernel]
        walk_at "dx"
        rw [decide_eq_false (show ¬ Str.ofString "possible" = Str.ofString "confused" by decide +kernel)]
        walk_at "dx"
        exact ⟨_, _, d, e, p, _, rfl, hb, q⟩
      · walk_at "dx"
        refine tup_isi ?_
        walk_at "dx"
        refine str_isi ?_
        walk_at "dx"
        refine V.x_kget2 ?_
        walk_at "dx"
        refine .inl ⟨(Str.ofString "impossible", 4), by simp, rfl, ?_⟩
        walk_at "dx"
        refine .inl ⟨r, rfl, hr, ?_⟩
        walk_at "dx"
        rw [show V.isNon (rowD T.C_Shortener r) = false from rfl]
        walk_at "dx"
        refine ⟨_, .inr (.inl rfl), rfl, rfl, ?_⟩
        rw [any2, show (decide (Str.ofString "alike" = Str.ofString "impossible") || decide (Str.ofString "unlike" = Str.ofString "impossible")) = false by decide +kernel]
        walk_at "dx"
        refine ⟨_, .inr (.inl rfl), rfl, rfl, ?_⟩
        rw [any2, show (decide (Str.ofString "stable" = Str.ofString "impossible") || decide (Str.ofString "unstable" = Str.ofString "impossible")) = false by decide +kernel]
        walk_at "dx"
        rw [decide_eq_false (show ¬ Str.ofString "impossible" = Str.ofString "confused" by decide +kernel)]
        walk_at "dx"
        exact ⟨_, _, d, e, p, _, rfl, hb, q⟩
theorem okJ_holds (T : Tx K mg) : FnOk P w K mg base L2.CX0 lv_holds T.f_holds T.d_holds p_holds (lift fun ds M R => spHolds ds M R ∨ spHoldsB K ds M R) := fn_orX (okD_holds (w := w) T) (okD_holds_b (w := w) T)
end
end G
namespace G
open PySem PySem.Spec PyProof.Rows L2 U V
def row21 : List Sh := [⟨8, 3, 2, Str.ofString "..."⟩]
def oth21 : List Sh := [⟨7, 3, 2, Str.ofString "..."⟩]
def mk21 : List Sh := [⟨0, 2, 0, Str.ofString "~"⟩]
def goodL : List (Cl × Pa) := [(.unlike row21 oth21, .txt (Str.ofString ".....0..")), (.alike row21 (row21 ++ row21), .nil), (.stable row21, .nil), (.unstable mk21, .txt (Str.ofString ".")),
  (.possible row21 (Str.ofString "abc...ij") 9, .txt (Str.ofString "abcdefgij")), (.impossible row21 (Str.ofString "abcd") 9, .nil), (.confused row21, .two (Str.ofString "........") (Str.ofString "........."))]
theorem row21_ok : rowOk row21 := ⟨fun s hs => by rw [List.mem_singleton.mp hs]; exact ⟨by decide, by decide, by decide, by decide +kernel⟩, by decide, by decide⟩
theorem oth21_ok : rowOk oth21 := ⟨fun s hs => by rw [List.mem_singleton.mp hs]; exact ⟨by decide, by decide, by decide, by decide +kernel⟩, by decide, by decide⟩
theorem mk21_ok : rowOk mk21 := ⟨fun s hs => by rw [List.mem_singleton.mp hs]; exact ⟨by decide, by decide, by decide, by decide +kernel⟩, by decide, by decide⟩
theorem two21_ok : rowOk (row21 ++ row21) := ⟨fun s hs => by
  rcases List.mem_append.mp hs with hs | hs <;> exact row21_ok.1 s hs, by decide, by decide⟩
theorem good_ok : ∀ x ∈ goodL, x.1.ok ∧ x.2.small := fun x hx => by
  simp only [goodL, List.mem_cons, List.not_mem_nil, or_false] at hx
  rcases hx with rfl | rfl | rfl | rfl | rfl | rfl | rfl
  · exact ⟨⟨row21_ok, oth21_ok⟩, by show (Str.ofString ".....0..").length ≤ 4000; decide +kernel⟩
  · exact ⟨⟨row21_ok, two21_ok⟩, trivial⟩
  · exact ⟨row21_ok, trivial⟩
  · exact ⟨mk21_ok, by show (Str.ofString ".").length ≤ 4000; decide +kernel⟩
  · exact ⟨⟨row21_ok, by decide +kernel, by decide⟩, by show (Str.ofString "abcdefgij").length ≤ 4000; decide +kernel⟩
  · exact ⟨⟨row21_ok, by decide +kernel, by decide⟩, trivial⟩
  · exact ⟨row21_ok, by show (Str.ofString "........").length ≤ 4000 ∧ (Str.ofString ".........").length ≤ 4000; decide +kernel⟩
theorem good_true : ∀ x ∈ goodL, holdsF x.1 x.2 = true := fun x hx => by
  simp only [goodL, List.mem_cons, List.not_mem_nil, or_false] at hx
  rcases hx with rfl | rfl | rfl | rfl | rfl | rfl | rfl <;> decide +kernel
section
variable {K : PySem.W.Frag}
structure OddP (K : PySem.W.Frag) (d : D) : Prop where
  cls : (∃ k ∈ missL, d = .str k) ∨ NotS K d
  tup : NotT K d ∨ ∃ x, d = .tup [x]
  rw_ : BadRw K d
  t2 : ∀ M, BadT K M 200 d
  t5 : ∀ M, BadT K M 500 d
  n5 : ∀ M, BadN K M 500 d
theorem odd_kind {d : D} {t : String} (h : KindD K d t) (n1 : t ≠ "str") (n2 : t ≠ "tuple") (n3 : ∀ i : Int, d = .int i → ¬ (0 ≤ i ∧ i ≤ 500)) : OddP K d :=
  ⟨.inr ⟨t, h, n1⟩, .inl ⟨t, h, n2⟩, .inl ⟨t, h, n2⟩, fun M => badT_of t (h.1 M) h.2 n1, fun M => badT_of t (h.1 M) h.2 n1, fun M => ⟨t, h.1 M, h.2, n3⟩⟩
theorem miss_bad : ∀ k ∈ missL, okText 200 k = false ∧ okText 500 k = false ∧ k.length ≤ 16777216 := by decide +kernel
theorem odd_str {k : Str} (h : k ∈ missL) : OddP K (.str k) := by
  obtain ⟨a, b, c⟩ := miss_bad k h
  have kd : KindD K (.str k) "str" := ⟨fun M => .str k, by decide⟩
  exact ⟨.inl ⟨k, h, rfl⟩, .inl ⟨_, kd, by decide⟩, .inl ⟨_, kd, by decide⟩, fun M => badT_str a c, fun M => badT_str b c, fun M => badN_of "str" (.str _) (by decide) (fun _ e => nomatch e)⟩
theorem kd_tup {xs : List D} : KindD K (.tup xs) "tuple" := ⟨fun M => .tup xs, by decide⟩
theorem odd_tup {x : D} (h : BadSh K x) : OddP K (.tup [x]) :=
  ⟨.inr ⟨_, kd_tup, by decide⟩, .inr ⟨x, rfl⟩, .inr ⟨x, rfl, h⟩, fun M => badT_of "tuple" (.tup _) (by decide) (by decide), fun M => badT_of "tuple" (.tup _) (by decide) (by decide), fun M => badN_of "tuple" (.tup _) (by decide) (fun _ e => nomatch e)⟩
theorem notT_lst {xs : List D} : NotT K (.lst xs) := ⟨"list", ⟨fun M => .lst xs, by decide⟩, by decide⟩
theorem notT_str {z : Str} : NotT K (.str z) := ⟨"str", ⟨fun M => .str z, by decide⟩, by decide⟩
theorem notS_tup {xs : List D} : NotS K (.tup xs) := ⟨"tuple", kd_tup, by decide⟩
theorem odd_notN {d : D} (h : OddP K d) : NotN K d := h.tup.imp id fun ⟨x, e⟩ => ⟨x, [], e⟩
theorem odd_pair {d : D} (h : OddP K d) : BadPair K d := h.tup.imp id fun ⟨x, e⟩ => ⟨[x], e, by show 1 ≠ 2; decide⟩
/-- a good claim, and what becomes of it -/
structure GC (K : PySem.W.Frag) (xs : List D) (p : D) : Prop where
  len : 2 ≤ xs.length ∧ xs.length ≤ 4
  sec : ∃ rs : List D, xs[1]? = some (.tup rs) ∧ rs.length ≤ 4 ∧ ∀ x ∈ rs, ∃ ys, x = .tup ys
  rep : ∀ i d, OddP K d → i < xs.length → BadH K (.tup (xs.set i d)) p
  del : ∀ i, i < xs.length → BadH K (.tup (xs.eraseIdx i)) p
  add : ∀ d, BadH K (.tup (xs ++ [d])) p
  pap : ∀ d, OddP K d → BadH K (.tup xs) d
  lp : ∀ ps, p = .tup ps → BadH K (.tup xs) (.lst ps) ∧ BadH K (.tup xs) (.tup (ps ++ [.tup []]))
  rows : ∀ l, BadH K (.tup (xs.set 1 (.lst l))) p
theorem gc_of {k : Str} {r : List Sh} {ys : List D} {p : D} (hk : (k, ((ys.length + 2 : Nat) : Int)) ∈ formL) (hl : ys.length ≤ 2) (hr : r.length ≤ 4) (rep2 : ∀ i d, OddP K d → i < ys.length → BadH K (.tup (.str k :: toldT r :: ys.set i d)) p)
    (pap : ∀ d, OddP K d → BadH K (.tup (.str k :: toldT r :: ys)) d) (lp : ∀ ps, p = .tup ps → BadH K (.tup (.str k :: toldT r :: ys)) (.lst ps) ∧ BadH K (.tup (.str k :: toldT r :: ys)) (.tup (ps ++ [.tup []]))) : GC K (.str k :: toldT r :: ys) p where
  len := ⟨by simp only [List.length_cons]; omega, by simp only [List.length_cons]; omega⟩
  sec := ⟨r.map toldD, rfl, by rw [List.length_map]; exact hr, fun x hx => by
    obtain ⟨s, _, rfl⟩ := List.mem_map.mp hx
    exact ⟨_, rfl⟩⟩
  rep := fun i d hd hi => by
    match i with
    | 0 =>
      rcases hd.cls with ⟨z, hz, rfl⟩ | h
      · exact .noform hz
      · exact .kind h
    | 1 => exact .row hk hd.rw_
    | i + 2 => exact rep2 i d hd (by simp only [List.length_cons] at hi; omega)
  del := fun i hi => by
    match i with
    | 0 =>
      cases ys with
      | nil => exact .short (by show 1 < 2; decide)
      | cons y zs => exact .kind notS_tup
    | 1 =>
      cases ys with
      | nil => exact .short (by show 1 < 2; decide)
      | cons y zs => exact .form _ hk (by simp only [List.length_cons]; omega)
    | i + 2 =>
      refine .form _ hk (xs := ys.eraseIdx i) ?_
      simp only [List.length_cons] at hi
      rw [List.length_eraseIdx_of_lt (by omega)]
      omega
  add := fun d => .form _ hk (xs := ys ++ [d]) (by rw [List.length_append, List.length_singleton]; omega)
  pap := pap
  lp := lp
  rows := fun l => .row hk (.inl notT_lst)
theorem nil_lp {c : D} {P : D → Prop} (h : ∀ d, NotN K d → BadH K c d) : ∀ ps, D.tup [] = .tup ps → BadH K c (.lst ps) ∧ BadH K c (.tup (ps ++ [.tup []])) := fun ps e => by
  cases e
  exact ⟨h _ (.inl notT_lst), h _ (.inr ⟨_, [], rfl⟩)⟩
theorem good_gc : ∀ x ∈ goodL, ∃ xs, x.1.D = .tup xs ∧ GC K xs x.2.D := fun x hx => by
  simp only [goodL, List.mem_cons, List.not_mem_nil, or_false] at hx
  rcases hx with rfl | rfl | rfl | rfl | rfl | rfl | rfl
  · refine ⟨_, rfl, gc_of (by simp [formL]) (by decide) (by decide) (fun i d hd hi => ?_) (fun d hd => ?_) (fun ps e => ?_)⟩
    · obtain rfl : i = 0 := by simp only [List.length_cons, List.length_nil] at hi; omega
      exact .two (.inr rfl) row21_ok (.inl hd.rw_)
    · exact .two (.inr rfl) row21_ok (.inr ⟨_, rfl, oth21_ok, .inr ⟨rfl, hd.t2⟩⟩)
    · cases e
  · have bad : ∀ d, NotN K d → BadH K (Cl.alike row21 (row21 ++ row21)).D d := fun d h => .two (.inl rfl) row21_ok (.inr ⟨_, rfl, two21_ok, .inl ⟨rfl, h⟩⟩)
    refine ⟨_, rfl, gc_of (by simp [formL]) (by decide) (by decide) (fun i d hd hi => ?_) (fun d hd => bad d (odd_notN hd)) (nil_lp (P := fun _ => True) bad)⟩
    obtain rfl : i = 0 := by simp only [List.length_cons, List.length_nil] at hi; omega
    exact .two (.inl rfl) row21_ok (.inl hd.rw_)
  · have bad : ∀ d, NotN K d → BadH K (Cl.stable row21).D d := fun d h => .one (.inl rfl) row21_ok (.inl ⟨rfl, h⟩)
    exact ⟨_, rfl, gc_of (by simp [formL]) (by decide) (by decide) (fun i d hd hi => absurd hi (by simp)) (fun d hd => bad d (odd_notN hd)) (nil_lp (P := fun _ => True) bad)⟩
  · refine ⟨_, rfl, gc_of (by simp [formL]) (by decide) (by decide) (fun i d hd hi => absurd hi (by simp)) (fun d hd => ?_) (fun ps e => ?_)⟩
    · exact .one (.inr rfl) mk21_ok (.inr ⟨rfl, hd.t2⟩)
    · cases e
  · refine ⟨_, rfl, gc_of (by simp [formL]) (by decide) (by decide) (fun i d hd hi => ?_) (fun d hd => ?_) (fun ps e => ?_)⟩
    · match i, hi with
      | 0, _ => exact .shown (.inl rfl) row21_ok (.inl hd.t2)
      | 1, _ => exact .shown (.inl rfl) row21_ok (.inr ⟨_, rfl, by decide +kernel, .inl hd.n5⟩)
    · exact .shown (.inl rfl) row21_ok (.inr ⟨_, rfl, by decide +kernel, .inr ⟨9, rfl, by decide, .inr ⟨rfl, hd.t5⟩⟩⟩)
    · cases e
  · have bad : ∀ d, NotN K d → BadH K (Cl.impossible row21 (Str.ofString "abcd") 9).D d := fun d h => .shown (.inr rfl) row21_ok (.inr ⟨_, rfl, by decide +kernel, .inr ⟨9, rfl, by decide, .inl ⟨rfl, h⟩⟩⟩)
    refine ⟨_, rfl, gc_of (by simp [formL]) (by decide) (by decide) (fun i d hd hi => ?_) (fun d hd => bad d (odd_notN hd)) (nil_lp (P := fun _ => True) bad)⟩
    match i, hi with
    | 0, _ => exact .shown (.inr rfl) row21_ok (.inl hd.t2)
    | 1, _ => exact .shown (.inr rfl) row21_ok (.inr ⟨_, rfl, by decide +kernel, .inl hd.n5⟩)
  · refine ⟨_, rfl, gc_of (by simp [formL]) (by decide) (by decide) (fun i d hd hi => absurd hi (by simp)) (fun d hd => .pair row21_ok (odd_pair hd)) (fun ps e => ?_)⟩
    cases e
    exact ⟨.pair row21_ok (.inl notT_lst), .pair row21_ok (.inr ⟨_, rfl, by decide⟩)⟩
theorem cut_del {xs : List D} {n : Nat} : xs.take n ++ xs.drop (n + 1) = xs.eraseIdx n := (List.eraseIdx_eq_take_drop_succ xs n).symm
theorem cut_rep {xs : List D} {n : Nat} {d : D} (h : n < xs.length) : xs.take n ++ [d] ++ xs.drop (n + 1) = xs.set n d := by
  rw [List.set_eq_take_append_cons_drop, if_pos h, List.append_assoc]
  rfl
end
section
variable {P : Program} {w : World} {K : PySem.W.Frag} {mg : Str → Option Value} {base : Heap}
def spGood21 : DC := fun ds M R => ∃ p : Addr, ds = [potD p] ∧ ∀ x ∈ goodL, R (.lst [x.1.D, x.2.D]) M
theorem okD__law_good (T : Tx K mg) : FnOk P w K mg base L2.CX0 lv__law_good T.f__law_good T.d__law_good p__law_good (lift (spGood21)) := by
  refine fnD T.F__law_good sc__law_good (fun ds M R h => ?_) (fun cdv A outer s H E hr => ?_)
  · first | (obtain ⟨rfl, _⟩ := h; rfl) | (obtain ⟨_, rfl, _⟩ := h; rfl) | (obtain ⟨_, _, rfl, _⟩ := h; rfl) | (obtain ⟨_, _, _, rfl, _⟩ := h; rfl) | (obtain ⟨_, _, _, _, rfl, _⟩ := h; rfl) | (obtain ⟨_, _, _, _, _, rfl, _⟩ := h; rfl) | (obtain ⟨_, _, _, _, _, _, rfl, _⟩ := h; rfl) | (obtain ⟨_, _, _, _, _, _, _, rfl, _⟩ := h; rfl) | (obtain ⟨_, _, _, _, _, _, _, _, rfl, _⟩ := h; rfl)
  · have hr64 := hr.units
    have hc_Shortener := T.c_Shortener
    have hi_Shortener := T.i_Shortener
    have hn_Shortener_limit := T.na_Shortener_limit
    have hn_Shortener_head := T.na_Shortener_head
    have hn_Shortener_tail := T.na_Shortener_tail
    have hn_Shortener_mark := T.na_Shortener_mark
    have hn_Shortener_told := T.na_Shortener_told
    refine ⟨_, (pss_cons (ps_asg (pe_tup (pa_cons (pe_tup (pa_cons (pe_tup (pa_cons pe_int (pa_cons pe_int (pa_cons pe_int (pa_cons pe_str pa_nil))))) pa_nil)) (pa_cons (pe_tup (pa_cons (pe_tup (pa_cons pe_int (pa_cons pe_int (pa_cons pe_int (pa_cons pe_str pa_nil))))) pa_nil)) pa_nil))) (pg_tupK (K := K) (n := 2) rfl rfl (pgs_cons (pg_name (i := 1) sc__law_good.nd rfl (by first | exact Or.inl rfl | exact Or.inr rfl)) (pgs_cons (pg_name (i := 2) sc__law_good.nd rfl (by first | exact Or.inl rfl | exact Or.inr rfl)) pgs_nil))))
        (pss_cons (ps_set (i := 3) sc__law_good.nd rfl (by first | exact Or.inl rfl | exact Or.inr rfl) (pe_lst (pa_cons (pe_lst (pa_cons (pe_tup (pa_cons pe_str (pa_cons (pv 1) (pa_cons (pv 2) pa_nil)))) (pa_cons pe_str pa_nil))) (pa_cons (pe_lst (pa_cons (pe_tup (pa_cons pe_str (pa_cons (pv 1) (pa_cons (pe_op (op_catK (K := K) rfl) (pv 1) (pv 1)) pa_nil)))) (pa_cons (pe_tup pa_nil) pa_nil))) pa_nil))))
        (pss_cons (ps_set (i := 3) sc__law_good.nd rfl (by first | exact Or.inl rfl | exact Or.inr rfl) (pe_op op_addU (pv 3) (pe_lst (pa_cons (pe_lst (pa_cons (pe_tup (pa_cons pe_str (pa_cons (pv 1) pa_nil))) (pa_cons (pe_tup pa_nil) pa_nil))) (pa_cons (pe_lst (pa_cons (pe_tup (pa_cons pe_str (pa_cons (pe_tup (pa_cons (pe_tup (pa_cons pe_int (pa_cons pe_int (pa_cons pe_int (pa_cons pe_str pa_nil))))) pa_nil)) pa_nil))) (pa_cons pe_str pa_nil))) pa_nil)))))
        (pss_cons (ps_set (i := 3) sc__law_good.nd rfl (by first | exact Or.inl rfl | exact Or.inr rfl) (pe_op op_addU (pv 3) (pe_lst (pa_cons (pe_lst (pa_cons (pe_tup (pa_cons pe_str (pa_cons (pv 1) (pa_cons pe_str (pa_cons pe_int pa_nil))))) (pa_cons pe_str pa_nil))) (pa_cons (pe_lst (pa_cons (pe_tup (pa_cons pe_str (pa_cons (pv 1) (pa_cons pe_str (pa_cons pe_int pa_nil))))) (pa_cons (pe_tup pa_nil) pa_nil))) pa_nil)))))
        (pss_one (ps_ret (pe_call (okD__law_one_of (w := w) T) (hr.mono (by decide)) rfl T.m__law_one_of T.F__law_one_of.kp T.b__law_one_of .nil pass0 (pa_cons (pv 0) (pa_cons (pe_op op_addU (pv 3) (pe_lst (pa_cons (pe_lst (pa_cons (pe_tup (pa_cons pe_str (pa_cons (pv 1) pa_nil))) (pa_cons (pe_tup (pa_cons pe_str (pa_cons pe_str pa_nil))) pa_nil))) pa_nil))) pa_nil))))))))), ?_⟩
    refine ⟨_, inferInstance, fun ds M R h => ?_⟩
    obtain ⟨p, rfl, q⟩ := h
    walk_at "dw"
    refine V.x_cat (by decide) ?_
    walk_at "dw"
    refine V.x_addL ⟨by decide, ?_⟩
    walk_at "dw"
    refine V.x_addL ⟨by decide, ?_⟩
    walk_at "dw"
    refine V.x_addL ⟨by decide, ?_⟩
    walk_at "dw"
    refine one_lst (fun x hx => ?_) (by simp) (by simp)
    simp only [List.cons_append, List.nil_append, List.mem_cons, List.not_mem_nil, or_false] at hx
    rcases hx with rfl | rfl | rfl | rfl | rfl | rfl | rfl
    · exact q (.unlike row21 oth21, .txt (Str.ofString ".....0..")) (by simp [goodL])
    · exact q (.alike row21 (row21 ++ row21), .nil) (by simp [goodL])
    · exact q (.stable row21, .nil) (by simp [goodL])
    · exact q (.unstable mk21, .txt (Str.ofString ".")) (by simp [goodL])
    · exact q (.possible row21 (Str.ofString "abc...ij") 9, .txt (Str.ofString "abcdefgij")) (by simp [goodL])
    · exact q (.impossible row21 (Str.ofString "abcd") 9, .nil) (by simp [goodL])
    · exact q (.confused row21, .two (Str.ofString "........") (Str.ofString ".........")) (by simp [goodL])
theorem bad_len {xs : List D} (h : xs.length ≠ 4) : BadSh K (.tup xs) := .inr (.inl ⟨xs, rfl, h⟩)
theorem bad_four {a b c m : D} (h : Bad4 K a b c m) : BadSh K (.tup [a, b, c, m]) := .inr (.inr ⟨a, b, c, m, rfl, h⟩)
theorem last21 : Txt.mul (Str.ofString "a") 399 ++ Str.ofString "-" ∈ missL := by decide +kernel
def spOdd21 (K : PySem.W.Frag) : DC := fun ds M R => ∃ p : Addr, ds = [potD p] ∧ ∀ d, OddP K d → R d M
theorem okD__law_odd (T : Tx K mg) : FnOk P w K mg base L2.CX0 lv__law_odd T.f__law_odd T.d__law_odd p__law_odd (lift (spOdd21 K)) := by
  refine fnD T.F__law_odd sc__law_odd (fun ds M R h => ?_) (fun cdv A outer s H E hr => ?_)
  · first | (obtain ⟨rfl, _⟩ := h; rfl) | (obtain ⟨_, rfl, _⟩ := h; rfl) | (obtain ⟨_, _, rfl, _⟩ := h; rfl) | (obtain ⟨_, _, _, rfl, _⟩ := h; rfl) | (obtain ⟨_, _, _, _, rfl, _⟩ := h; rfl) | (obtain ⟨_, _, _, _, _, rfl, _⟩ := h; rfl) | (obtain ⟨_, _, _, _, _, _, rfl, _⟩ := h; rfl) | (obtain ⟨_, _, _, _, _, _, _, rfl, _⟩ := h; rfl) | (obtain ⟨_, _, _, _, _, _, _, _, rfl, _⟩ := h; rfl)
  · have hr64 := hr.units
    have hc_Shortener := T.c_Shortener
    have hi_Shortener := T.i_Shortener
    have hn_Shortener_limit := T.na_Shortener_limit
    have hn_Shortener_head := T.na_Shortener_head
    have hn_Shortener_tail := T.na_Shortener_tail
    have hn_Shortener_mark := T.na_Shortener_mark
    have hn_Shortener_told := T.na_Shortener_told
    refine ⟨_, (pss_cons (ps_set (i := 1) sc__law_odd.nd rfl (by first | exact Or.inl rfl | exact Or.inr rfl) (pe_lst (pa_cons pe_non (pa_cons pe_bl (pa_cons (pe_un un_neg pe_int) (pa_cons pe_int (pa_cons (pe_op op_pow pe_int pe_int) (pa_cons pe_str (pa_cons pe_str (pa_cons pe_str (pa_cons (pe_lst pa_nil) (pa_cons (show PE _ _ tDNewE from pe_dnewK) (pa_cons (pe_tup (pa_cons pe_non pa_nil)) (pa_cons (pe_tup (pa_cons (pe_tup (pa_cons pe_int (pa_cons pe_int (pa_cons pe_int pa_nil)))) pa_nil)) (pa_cons (pe_tup (pa_cons (pe_tup (pa_cons pe_int (pa_cons pe_int (pa_cons pe_int (pa_cons pe_int pa_nil))))) pa_nil)) (pa_cons (pe_lst (pa_cons (pe_tup (pa_cons pe_str pa_nil)) pa_nil)) pa_nil))))))))))))))))
        (pss_one (ps_ret (pe_call (okD__law_one_of (w := w) T) (hr.mono (by decide)) rfl T.m__law_one_of T.F__law_one_of.kp T.b__law_one_of .nil pass0 (pa_cons (pv 0) (pa_cons (pe_op op_addU (pv 1) (pe_lst (pa_cons (pe_tup (pa_cons (pe_tup (pa_cons pe_int (pa_cons pe_int (pa_cons pe_int (pa_cons pe_str pa_nil))))) pa_nil)) (pa_cons (pe_tup (pa_cons (pe_tup (pa_cons pe_bl (pa_cons pe_int (pa_cons pe_int (pa_cons pe_str pa_nil))))) pa_nil)) (pa_cons (pe_tup (pa_cons (pe_tup (pa_cons pe_int (pa_cons pe_int (pa_cons pe_int (pa_cons pe_str pa_nil))))) pa_nil)) (pa_cons (pe_op op_addU (pe_op op_mulS pe_str pe_int) pe_str) pa_nil)))))) pa_nil)))))), ?_⟩
    refine ⟨_, inferInstance, fun ds M R h => ?_⟩
    obtain ⟨p, rfl, q⟩ := h
    walk_at "dw"
    refine x_IC1 ⟨cpow19, ?_⟩
    walk_at "dw"
    intro a0
    walk_at "dw"
    refine ⟨_, _, rfl, rfl, Nat.le_of_ble_eq_true rfl, by decide, by decide, ?_⟩
    walk_at "dw"
    refine V.x_addS ⟨by decide +kernel, ?_⟩
    walk_at "dw"
    refine V.x_addL ⟨by rw [sizeLine_eq]; show 14 + 4 ≤ _; omega, ?_⟩
    walk_at "dw"
    refine one_lst (fun x hx => ?_) (by simp) (by simp)
    simp only [List.cons_append, List.nil_append, List.mem_cons, List.not_mem_nil, or_false] at hx
    refine q _ ?_
    rcases hx with rfl | rfl | rfl | rfl | rfl | rfl | rfl | rfl | rfl | rfl | rfl | rfl | rfl | rfl | rfl | rfl | rfl | rfl
    · exact odd_kind (t := "NoneType") ⟨fun M => .non, by decide⟩ (by decide) (by decide) (fun i e => nomatch e)
    · exact odd_kind (t := "bool") ⟨fun M => .bl _, by decide⟩ (by decide) (by decide) (fun i e => nomatch e)
    · exact odd_kind (t := "int") ⟨fun M => .int _, by decide⟩ (by decide) (by decide) (fun i e => by cases e; decide)
    · exact odd_kind (t := "int") ⟨fun M => .int _, by decide⟩ (by decide) (by decide) (fun i e => by cases e; decide)
    · exact odd_kind (t := "int") ⟨fun M => .int _, by decide⟩ (by decide) (by decide) (fun i e => by cases e; decide +kernel)
    · exact odd_str (by simp [missL])
    · exact odd_str (by simp [missL])
    · exact odd_str (by simp [missL])
    · exact odd_kind (t := "list") ⟨fun M => .lst _, by decide⟩ (by decide) (by decide) (fun i e => nomatch e)
    · exact odd_kind (t := "dict") ⟨fun M => .emp _, by decide⟩ (by decide) (by decide) (fun i e => nomatch e)
    · exact odd_tup (.inl ⟨"NoneType", ⟨fun M => .non, by decide⟩, by decide⟩)
    · exact odd_tup (bad_len (by show 3 ≠ 4; decide))
    · exact odd_tup (bad_four (.inr (.inr (.inr ⟨⟨1, rfl, by decide⟩, ⟨2, rfl, by decide⟩, ⟨3, rfl, by decide⟩, fun M => badT_of "int" (.int _) (by decide) (by decide)⟩))))
    · exact odd_kind (t := "list") ⟨fun M => .lst _, by decide⟩ (by decide) (by decide) (fun i e => nomatch e)
    · exact odd_tup (bad_four (.inl fun M => badN_int (by decide)))
    · exact odd_tup (bad_four (.inl fun M => badN_of "bool" (.bl _) (by decide) (fun _ e => nomatch e)))
    · exact odd_tup (bad_four (.inr (.inr (.inr ⟨⟨1, rfl, by decide⟩, ⟨2, rfl, by decide⟩, ⟨3, rfl, by decide⟩, fun M => badT_str (by decide +kernel) (by decide +kernel)⟩))))
    · exact odd_str last21
def spBent (K : PySem.W.Frag) : DC := fun ds M R => ∃ (p : Addr) (xs : List D) (pa : D), ds = [potD p, .tup xs, pa] ∧ GC K xs pa ∧ ∀ c d, BadH K c d → R (.tup [c, d]) M
theorem okD__law_bent (T : Tx K mg) : FnOk P w K mg base L2.CX0 lv__law_bent T.f__law_bent T.d__law_bent p__law_bent (lift (spBent K)) := by
  refine fnD T.F__law_bent sc__law_bent (fun ds M R h => ?_) (fun cdv A outer s H E hr => ?_)
  · first | (obtain ⟨rfl, _⟩ := h; rfl) | (obtain ⟨_, rfl, _⟩ := h; rfl) | (obtain ⟨_, _, rfl, _⟩ := h; rfl) | (obtain ⟨_, _, _, rfl, _⟩ := h; rfl) | (obtain ⟨_, _, _, _, rfl, _⟩ := h; rfl) | (obtain ⟨_, _, _, _, _, rfl, _⟩ := h; rfl) | (obtain ⟨_, _, _, _, _, _, rfl, _⟩ := h; rfl) | (obtain ⟨_, _, _, _, _, _, _, rfl, _⟩ := h; rfl) | (obtain ⟨_, _, _, _, _, _, _, _, rfl, _⟩ := h; rfl)
  · have hr64 := hr.units
    have hc_Shortener := T.c_Shortener
    have hi_Shortener := T.i_Shortener
    have hn_Shortener_limit := T.na_Shortener_limit
    have hn_Shortener_head := T.na_Shortener_head
    have hn_Shortener_tail := T.na_Shortener_tail
    have hn_Shortener_mark := T.na_Shortener_mark
    have hn_Shortener_told := T.na_Shortener_told
    refine ⟨_, (pss_cons (ps_par3 (i := 3) (j := 4) (l := 5) rfl sc__law_bent.nd rfl rfl rfl (by decide) (by decide) (by decide) rfl rfl rfl (pa_cons (pe_call (okD__law_ladle (w := w) T) (hr.mono (by decide)) rfl T.m__law_ladle T.F__law_ladle.kp T.b__law_ladle .nil pass0 (pa_cons (pv 0) (pa_cons pe_int pa_nil))) (pa_cons (pe_call (okD__law_ladle (w := w) T) (hr.mono (by decide)) rfl T.m__law_ladle T.F__law_ladle.kp T.b__law_ladle .nil pass0 (pa_cons (pv 0) (pa_cons (pe_callB (call_lenK (K := K) rfl) (by rfl) T.n_len (by decide +kernel) (pa_cons (pv 1) pa_nil)) pa_nil))) (pa_cons (pe_call (okD__law_odd (w := w) T) (hr.mono (by decide)) rfl T.m__law_odd T.F__law_odd.kp T.b__law_odd .nil pass0 (pa_cons (pv 0) pa_nil)) pa_nil))) (by rfl))
        (pss_cons (ps_if (pt_cmpR (op_eqA (K := K) rfl hr64) (pv 3) pe_int (nomark _)) (pss_one (ps_ret (pe_tup (pa_cons (pv 5) (pa_cons (pv 2) pa_nil))))) pss_nil)
        (pss_cons (ps_if (pt_cmpR (op_eqA (K := K) rfl hr64) (pv 3) pe_int (nomark _)) (pss_one (ps_ret (pe_tup (pa_cons (pv 1) (pa_cons (pv 5) pa_nil))))) pss_nil)
        (pss_cons (ps_if (pt_cmpR (op_eqA (K := K) rfl hr64) (pv 3) pe_int (nomark _)) (pss_one (ps_ret (pe_tup (pa_cons (pe_callTy (call_listK (K := K) rfl rfl) (by rfl) T.n_list (by decide +kernel) (pa_cons (pv 1) pa_nil)) (pa_cons (pv 2) pa_nil))))) pss_nil)
        (pss_cons (ps_if (pt_cmpR (op_eqA (K := K) rfl hr64) (pv 3) pe_int (nomark _)) (pss_one (ps_ret (pe_tup (pa_cons (pe_op (op_catK (K := K) rfl) (pv 1) (pe_tup (pa_cons (pv 5) pa_nil))) (pa_cons (pv 2) pa_nil))))) pss_nil)
        (pss_cons (ps_if (pt_cmpR (op_eqA (K := K) rfl hr64) (pv 3) pe_int (nomark _)) (pss_one (ps_ret (pe_tup (pa_cons (pe_op (op_catK (K := K) rfl) (pe_slice (sl_Z (K := K) rfl) (pv 1) po_none (po_some (pv 4))) (pe_slice (sl_Z (K := K) rfl) (pv 1) (po_some (pe_op op_addU (pv 4) pe_int)) po_none)) (pa_cons (pv 2) pa_nil))))) pss_nil)
        (pss_one (ps_ret (pe_tup (pa_cons (pe_op (op_catK (K := K) rfl) (pe_op (op_catK (K := K) rfl) (pe_slice (sl_Z (K := K) rfl) (pv 1) po_none (po_some (pv 4))) (pe_tup (pa_cons (pv 5) pa_nil))) (pe_slice (sl_Z (K := K) rfl) (pv 1) (po_some (pe_op op_addU (pv 4) pe_int)) po_none)) (pa_cons (pv 2) pa_nil))))))))))), ?_⟩
    refine ⟨_, inferInstance, fun ds M R h => ?_⟩
    obtain ⟨p, xs, pa, rfl, gc, q⟩ := h
    obtain ⟨l2, l4⟩ := gc.len
    walk_at "dw"
    refine draw_D (by decide) (by decide) fun way hw => ?_
    walk_at "dw"
    refine draw_D (by omega) (by omega) fun at_ hat => ?_
    have hat : at_ < xs.length := by omega
    walk_at "dw"
    refine ⟨p, rfl, fun d hd => ?_⟩
    walk_at "dw"
    refine x_ite _ (fun c => ?_) (fun c => ?_)
    · walk_at "dw"
      refine q _ _ ?_
      rcases hd.tup with h | ⟨x, rfl⟩
      · exact .notT h
      · exact .short (by show 1 < 2; decide)
    walk_at "dw"
    refine x_ite _ (fun c => ?_) (fun c => ?_)
    · walk_at "dw"
      exact q _ _ (gc.pap d hd)
    walk_at "dw"
    refine x_ite _ (fun c => ?_) (fun c => ?_)
    · walk_at "dw"
      exact q _ _ (.notT notT_lst)
    walk_at "dw"
    refine x_ite _ (fun c => ?_) (fun c => ?_)
    · walk_at "dw"
      refine V.x_cat (by rw [sizeLine_eq]; show _ + 1 ≤ _; omega) ?_
      walk_at "dw"
      exact q _ _ (gc.add d)
    walk_at "dw"
    have c1 : cutG xs none (some (at_ : Int)) = xs.take at_ := cutG_to xs at_
    have c2 : cutG xs (some ((at_ : Int) + 1)) none = xs.drop (at_ + 1) := cutG_from xs (at_ + 1)
    have t1 : (xs.take at_).length ≤ 4 := by rw [List.length_take]; omega
    have t2 : (xs.drop (at_ + 1)).length ≤ 4 := by rw [List.length_drop]; omega
    refine x_ite _ (fun c => ?_) (fun c => ?_)
    · walk_at "dw"
      rw [c1, c2]
      refine V.x_cat (by rw [sizeLine_eq]; omega) ?_
      rw [cut_del]
      walk_at "dw"
      exact q _ _ (gc.del at_ hat)
    · walk_at "dw"
      rw [c1]
      refine V.x_cat (by rw [sizeLine_eq]; show _ + 1 ≤ _; omega) ?_
      walk_at "dw"
      rw [c2]
      refine V.x_cat (by rw [sizeLine_eq, List.length_append]; show _ + 1 + _ ≤ _; omega) ?_
      rw [cut_rep hat]
      walk_at "dw"
      exact q _ _ (gc.rep at_ d hd hat)
end
end G
namespace G
open PySem PySem.Spec PyProof.Rows L2 U V
section
variable {P : Program} {w : World} {K : PySem.W.Frag} {mg : Str → Option Value} {base : Heap} [V.KDs K w "FORMS"]
set_option maxHeartbeats 40000000 in
theorem okD__law_right (T : Tx K mg) : FnG P w K mg base lv__law_right T.f__law_right T.d__law_right p__law_right (lift (spRightD)) := by
  refine fnDG T.F__law_right sc__law_right (fun ds M R h => ?_) (fun cdv A outer s H E hr hgd => ?_)
  · first | (obtain ⟨rfl, _⟩ := h; rfl) | (obtain ⟨_, rfl, _⟩ := h; rfl) | (obtain ⟨_, _, rfl, _⟩ := h; rfl) | (obtain ⟨_, _, _, rfl, _⟩ := h; rfl) | (obtain ⟨_, _, _, _, rfl, _⟩ := h; rfl) | (obtain ⟨_, _, _, _, _, rfl, _⟩ := h; rfl) | (obtain ⟨_, _, _, _, _, _, rfl, _⟩ := h; rfl) | (obtain ⟨_, _, _, _, _, _, _, rfl, _⟩ := h; rfl) | (obtain ⟨_, _, _, _, _, _, _, _, rfl, _⟩ := h; rfl)
  · have hr64 := hr.units
    have hc_Shortener := T.c_Shortener
    have hi_Shortener := T.i_Shortener
    have hn_Shortener_limit := T.na_Shortener_limit
    have hn_Shortener_head := T.na_Shortener_head
    have hn_Shortener_tail := T.na_Shortener_tail
    have hn_Shortener_mark := T.na_Shortener_mark
    have hn_Shortener_told := T.na_Shortener_told
    refine ⟨_, (pss_cons (ps_for PassesOwn.never rfl (pi_range1 rfl T.n_range (pa_cons pe_int pa_nil)) (pg_name (i := 1) sc__law_right.nd rfl (by first | exact Or.inl rfl | exact Or.inr rfl)) (pss_cons (ps_asg (pe_call (okD__law_good (w := w) T) (hr.mono (by decide)) rfl T.m__law_good T.F__law_good.kp T.b__law_good .nil pass0 (pa_cons (pv 0) pa_nil)) (pg_lstK (K := K) (n := 2) rfl rfl (pgs_cons (pg_name (i := 2) sc__law_right.nd rfl (by first | exact Or.inl rfl | exact Or.inr rfl)) (pgs_cons (pg_name (i := 3) sc__law_right.nd rfl (by first | exact Or.inl rfl | exact Or.inr rfl)) pgs_nil))))
        (pss_cons (ps_if (pt_cmpR op_notBl (pe_call (okJ_holds (w := w) T) (hr.mono (by decide)) rfl T.m_holds T.F_holds.kp T.b_holds .nil pass0 (pa_cons (pv 2) (pa_cons (pv 3) pa_nil))) pe_bl (nomark _)) (pss_one (ps_ret pe_bl)) pss_nil)
        (pss_cons (ps_asg (pe_call (okD__law_bent (w := w) T) (hr.mono (by decide)) rfl T.m__law_bent T.F__law_bent.kp T.b__law_bent .nil pass0 (pa_cons (pv 0) (pa_cons (pv 2) (pa_cons (pv 3) pa_nil)))) (pg_tupK (K := K) (n := 2) rfl rfl (pgs_cons (pg_name (i := 4) sc__law_right.nd rfl (by first | exact Or.inl rfl | exact Or.inr rfl)) (pgs_cons (pg_name (i := 5) sc__law_right.nd rfl (by first | exact Or.inl rfl | exact Or.inr rfl)) pgs_nil))))
        (pss_cons (ps_if (pt_cmpR op_notBl (pe_call (okJ_holds (w := w) T) (hr.mono (by decide)) rfl T.m_holds T.F_holds.kp T.b_holds .nil pass0 (pa_cons (pv 4) (pa_cons (pv 5) pa_nil))) pe_bl (nomark _)) (pss_one (ps_ret pe_bl)) pss_nil)
        (pss_cons (ps_if (pt_val (pe_callB (call_isiK (K := K) rfl) (by rfl) T.n_isinstance (by decide +kernel) (pa_cons (pv 3) (pa_cons (pe_bt "tuple" rfl T.n_tuple (by decide +kernel)) pa_nil)))) (pss_one (ps_if (PW.pt (pw_or (pt_val (pe_call (okJ_holds (w := w) T) (hr.mono (by decide)) rfl T.m_holds T.F_holds.kp T.b_holds .nil pass0 (pa_cons (pv 2) (pa_cons (pe_callTy (call_listK (K := K) rfl rfl) (by rfl) T.n_list (by decide +kernel) (pa_cons (pv 3) pa_nil)) pa_nil)))) (pw_or1 (pt_val (pe_call (okJ_holds (w := w) T) (hr.mono (by decide)) rfl T.m_holds T.F_holds.kp T.b_holds .nil pass0 (pa_cons (pv 2) (pa_cons (pe_op (op_catK (K := K) rfl) (pv 3) (pe_tup (pa_cons (pe_tup pa_nil) pa_nil))) pa_nil))))))) (pss_one (ps_ret pe_bl)) pss_nil)) pss_nil)
        (pss_one (ps_if (pt_cmpR op_notBl (pe_call (okJ_holds (w := w) T) (hr.mono (by decide)) rfl T.m_holds T.F_holds.kp T.b_holds .nil pass0 (pa_cons (pe_op (op_catK (K := K) rfl) (pe_op (op_catK (K := K) rfl) (pe_slice (sl_Z (K := K) rfl) (pv 2) po_none (po_some pe_int)) (pe_tup (pa_cons (pe_lc (own := [("_law_each", 6)]) rfl sc__law_right.nd (pi_tupK (K := K) rfl (pe_ix (ix_K (K := K) rfl) (pv 2) pe_int (fun _ _ => rfl))) (blkOk_by (N := ["_law_pot_here", "_law_again", "_law_claim_here", "_law_paper_here", "_law_one", "_law_two", "_law_each"]) (sc := L2.defScope s__law_right) (by decide +kernel)) (fun _ _ _ _ _ => (pg_name (i := 6) sc__law_right.nd rfl (by first | exact Or.inl rfl | exact Or.inr rfl))) (fun _ _ _ _ _ => pts_nil) (fun _ _ _ _ _ => (pe_callTy (call_listK (K := K) rfl rfl) (by rfl) T.n_list (by decide +kernel) (pa_cons (pv 6) pa_nil)))) pa_nil))) (pe_slice (sl_Z (K := K) rfl) (pv 2) (po_some pe_int) po_none)) (pa_cons (pv 3) pa_nil))) pe_bl (nomark _)) (pss_one (ps_ret pe_bl)) pss_nil))))))))
        (pss_one (ps_ret (pe_and (pe_cmpR op_isBl (pe_call (okJ_holds (w := w) T) (hr.mono (by decide)) rfl T.m_holds T.F_holds.kp T.b_holds .nil pass0 (pa_cons (pe_tup pa_nil) (pa_cons (pe_tup pa_nil) pa_nil))) pe_bl (nomark _)) (pe_one (pe_cmpR op_isBl (pe_call (okJ_holds (w := w) T) (hr.mono (by decide)) rfl T.m_holds T.F_holds.kp T.b_holds .nil pass0 (pa_cons pe_str (pa_cons (pe_tup pa_nil) pa_nil))) pe_bl (nomark _))))))), ?_⟩
    refine ⟨_, inferInstance, fun ds M R h => ?_⟩
    obtain ⟨p, rfl, q⟩ := h
    walk_at "dw"
    refine ⟨by decide, by decide, trivial, ?_⟩
    refine loop_inv (fun i δ M' => M' = M ∧ ∃ u1 u2 u3 u4 u5 u6, δ = [some (potD p), u1, u2, u3, u4, u5, u6]) ⟨rfl, _, _, _, _, _, _, rfl⟩ ?_ ?_
    · rintro i x δ M' Kc hx ⟨rfl, u1, u2, u3, u4, u5, u6, rfl⟩ hk
      walk_at "dw"
      refine ⟨p, rfl, fun cp hcp => ?_⟩
      obtain ⟨ok1, ok2⟩ := good_ok cp hcp
      have tr := good_true cp hcp
      obtain ⟨xs, ex, gc⟩ := good_gc (K := K) cp hcp
      walk_at "dw"
      refine V.x_gL rfl ?_
      walk_at "dw"
      refine .inl ⟨cp.1, cp.2, rfl, ok1, ok2, ?_⟩
      rw [tr]
      walk_at "dw"
      rw [show decide (true = true) = true from rfl]
      walk_at "dw"
      rw [ex]
      refine ⟨p, xs, cp.2.D, rfl, gc, fun c d hb => ?_⟩
      walk_at "dw"
      refine .inr ⟨c, d, rfl, hb, ?_⟩
      walk_at "dw"
      rw [show decide (false = false) = true from rfl]
      walk_at "dw"
      obtain ⟨l2, l4⟩ := gc.len
      obtain ⟨rs, hrs, rl, hrt⟩ := gc.sec
      obtain ⟨cl, pa⟩ := cp
      cases pa
      case' txt z =>
        rw [show (cl, Pa.txt z).2.D = .str z from rfl]
        refine ⟨_, false, .str _, kit_ty (by decide +kernel), ?_⟩
        walk_at "dw"
      case' two y z =>
        have lp := gc.lp _ rfl
        rw [show (cl, Pa.two y z).2.D = .tup [.str y, .str z] from rfl]
        refine ⟨_, true, .tup _, kit_ty (by decide +kernel), ?_⟩
        walk_at "dw"
        refine .inr ⟨_, _, rfl, lp.1, ?_⟩
        walk_at "dw"
        refine V.x_cat (by rw [sizeLine_eq]; show 2 + 1 ≤ _; omega) ?_
        walk_at "dw"
        refine .inr ⟨_, _, rfl, lp.2, ?_⟩
        walk_at "dw"
      case' nil =>
        have lp := gc.lp _ rfl
        rw [show (cl, Pa.nil).2.D = .tup [] from rfl]
        refine ⟨_, true, .tup _, kit_ty (by decide +kernel), ?_⟩
        walk_at "dw"
        refine .inr ⟨_, _, rfl, lp.1, ?_⟩
        walk_at "dw"
        refine V.x_cat (by decide) ?_
        walk_at "dw"
        refine .inr ⟨_, _, rfl, lp.2, ?_⟩
        walk_at "dw"
      all_goals
        refine V.x_ixT (show atI xs ((1 : Nat) : Int) = some (.tup rs) from atI_nat hrs) ?_
        refine ⟨rs, rfl, trivial, by omega, ?_⟩
        refine gather_inv (fun i acc M2 => M2 = M' ∧ acc.length ≤ i) ⟨rfl, Nat.le_refl _⟩ ?_ ?_
        · rintro i x acc M2 Ky Kn hx ⟨rfl, hl⟩ hy hn
          obtain ⟨ys, rfl⟩ := hrt x (List.mem_of_getElem? hx)
          walk_at "dw"
          exact (hy _ _ trivial ⟨rfl, by rw [List.length_append, List.length_singleton]; omega⟩).2
        rintro acc M2 ⟨rfl, hl⟩
        walk_at "dw"
        rw [show cutG xs none (some 1) = xs.take 1 from cutG_to xs 1]
        refine V.x_cat (by rw [sizeLine_eq, List.length_take]; show _ + 1 ≤ _; omega) ?_
        walk_at "dw"
        rw [show cutG xs (some 2) none = xs.drop (1 + 1) from cutG_from xs 2]
        refine V.x_cat (by rw [sizeLine_eq, List.length_append, List.length_take, List.length_drop]; show _ + 1 + _ ≤ _; omega) ?_
        rw [cut_rep (n := 1) (by omega)]
        walk_at "dw"
        refine .inr ⟨_, _, rfl, gc.rows acc, ?_⟩
        walk_at "dw"
        rw [show decide (false = false) = true from rfl]
        walk_at "dw"
        exact (hk _ _ trivial ⟨rfl, _, _, _, _, _, _, rfl⟩).2
    · rintro δ M' ⟨rfl, u1, u2, u3, u4, u5, u6, rfl⟩
      walk_at "dw"
      refine .inr ⟨_, _, rfl, .short (by decide), ?_⟩
      walk_at "dw"
      rw [show decide (false = false) = true from rfl]
      walk_at "dw"
      refine .inr ⟨_, _, rfl, .notT notT_str, ?_⟩
      walk_at "dw"
      exact q
theorem ok__law_right (T : Tx K mg) : FnG P w K mg base lv__law_right T.f__law_right T.d__law_right p__law_right spRight := fnG_weak (okD__law_right (w := w) T) right_lift
end
end G
namespace G
open PySem PySem.Spec PyProof.Rows L2 U
section
variable {P : Program} {w : World} {K : PySem.W.Frag} {mg : Str → Option Value} {base : Heap} [V.KDs K w "FORMS"]
theorem ok_law (T : Tx K mg) : FnG P w K mg base lv_law T.f_law T.d_law p_law (spLaw K) := by
  refine fnG_of T.F_law sc_law (fun vs H Q E h => ?_) (fun cdv A outer s H vs Q E hr hgd h => ?_)
  · obtain ⟨a, ns, rfl, _⟩ := h
    rfl
  · obtain ⟨a, ns, rfl, hS, hl, q⟩ := h
    refine ⟨_, (pss_one (ps_ret (pe_callB (cr_allK (K := K) rfl rfl) (by rfl) T.n_all (by decide +kernel) (pa_cons (pe_lc (own := [("_law_k", 1)]) rfl sc_law.nd (pi_range1 rfl T.n_range (pa_cons (pe_callB (call_maxU rfl) (by rfl) T.n_max (by decide +kernel) (pa_cons pe_int (pa_cons (pe_callB (call_minU rfl) (by rfl) T.n_min (by decide +kernel) (pa_cons (pe_callB (call_lenK (K := K) rfl) (by rfl) T.n_len (by decide +kernel) (pa_cons (pv 0) pa_nil)) (pa_cons pe_int pa_nil))) pa_nil))) pa_nil)) (blkOk_by (N := ["_law_script", "_law_k"]) (sc := L2.defScope s_law) (by decide +kernel)) (fun _ _ _ _ _ => (pg_name (i := 1) sc_law.nd rfl (by first | exact Or.inl rfl | exact Or.inr rfl))) (fun _ _ _ _ _ => pts_nil) (fun _ _ _ _ _ => (pe_callG (ok__law_right (w := w) T) (hr.mono (by decide)) hgd rfl T.m__law_right T.F__law_right.kp T.b__law_right (pa_cons (pe_call (ok__law_pot T) (hr.mono (by decide)) rfl T.m__law_pot T.F__law_pot.kp T.b__law_pot .nil pass0 (pa_cons (pv 0) (pa_cons (pv 1) pa_nil))) pa_nil)))) pa_nil)))), ?_⟩
    walk_at "go"
    refine ⟨_, .inl hS, ?_⟩
    rw [List.length_map]
    refine lcR (by split <;> split <;> omega) (by split <;> split <;> omega) (fun i ds => ds = List.replicate i (.bl true)) rfl ?_ ?_
    · rintro D0 hD i ds H' hi rfl hE x H2 ⟨rfl, rfl⟩ Ky Kn hy hn
      walk_at "go"
      have hS2 : SqL K H2 a (ns.map V.int) := sql_sm hS (hE.same hD)
      refine ⟨a, ns, i, rfl, hS2, hl, (by revert hi; split <;> split <;> omega), fun p H3 e3 hp => ?_⟩
      walk_at "go"
      exact ⟨p, rfl, hp, fun H4 e4 => hy _ _ (.bl true) (e3.trans e4) (.bl _) rfl (show _ ++ _ = _ by rw [← List.replicate_succ'])⟩
    · rintro D0 hD H' ds rfl hlen hS' hv
      obtain ⟨p3, xs3, e0, _, hp3, hs3⟩ := dt_lst hv
      cases e0
      rw [show ∀ n, List.replicate n (D.bl true) = (List.replicate n true).map D.bl from fun n => (List.map_replicate).symm] at hs3
      have e3 := hs3.bls_eq
      subst e3
      refine ⟨_, _, rfl, SqL.of hp3, ?_⟩
      rw [show ∀ n, (List.replicate n true).all id = true from fun n => by simp]
      exact q _
end
end G
namespace G
open PySem PySem.Spec PyProof.Rows L2 U
theorem law_end {P : Program} {w : World} {K : PySem.W.Frag} {h : Heap} {mg : Str → Option Value} {fa fl : Addr} (X : K.In h) (G0 : h.Ns mainGlobals mg) (hmg : mg "law" = some (.ref fa)) (kd_FORMS : V.KDs K w "FORMS") (e : ∃ T : Tx K mg, T.f_law = fl) :
    ∃ fd : FuncData, (∀ (t : Shared) (u : Value), BindsTo t fd ⟨[u], []⟩ [("_law_script", u)]) ∧ ∀ base : Heap, K.In base → base.Ns mainGlobals mg → FnG P w K mg base lv_law fa fd ["_law_script"] (spLaw K) := by
  obtain ⟨T, _⟩ := e
  have q := hmg.symm.trans T.m_law
  cases q
  refine ⟨T.d_law, ?_, fun base _ _ => ok_law T⟩
  obtain ⟨oc, od, kV, doc, pm, an, cdv, ct, osl, efd, lk, hcd⟩ := T.F_law.ex
  intro t u
  rw [efd]
  exact .of_eq rfl
end G
open PySem PySem.W PyProof.Rows
set_option maxRecDepth 100000 in
set_option maxHeartbeats 0 in
theorem PySem.Challenge.cw_shownshort_k21_things_of_any_kind_judged_holds : PySem.Challenge.rw_shownshort_k21_things_of_any_kind_judged.Holds := by
  w_on; o_law; k_head; (case hw => w_witness2)
  k_fill
  refine U.walkG (l := PySem.Challenge.rw_shownshort_k21_things_of_any_kind_judged) (k := G.lv_law) (x := "_law_script") rfl rfl ⟨rfl, by decide, by decide⟩ (fun w h Y => PySem.W.kIn_of Y) ?F
  case F =>
    intro w mg fa h KX G0 hmg
    refine' G.law_end KX G0 hmg (V.kds_mk ?kd1_FORMS ?kd2_FORMS ?kd3_FORMS) (G.all_mk KX G0 ?x_n_abs ?x_n_all ?x_n_bool ?x_n_divmod ?x_n_enumerate ?x_n_int ?x_n_isinstance ?x_n_len ?x_n_list ?x_n_max ?x_n_min ?x_n_range ?x_n_str ?x_n_tuple ?x_n_zip ?x_k_MOST_SIGNS ?x_k_MOST_MARK ?x_k_MOST_ROW ?x_k_MOST_TEXT ?x_k_MOST_LENGTH ?x_k_SIGNS ?x_k_LEAST ?x_k_NEXT ?x_k_ENOUGH ?x_m_FORMS ?x_d_FORMS ?x_me_FORMS ?x_v_FORMS_0 ?x_v_FORMS_1 ?x_v_FORMS_2 ?x_v_FORMS_3 ?x_v_FORMS_4 ?x_v_FORMS_5 ?x_v_FORMS_6 ?x_n_FORMS_0 ?x_n_FORMS_1 ?x_n_FORMS_2 ?x_n_FORMS_3 ?x_C_InputError ?x_C_InvalidNumber ?x_C_InvalidMark ?x_C_InvalidRow ?x_L_InvalidNumber ?x_me_R_InvalidNumber ?x_xs_InvalidNumber ?x_xe_InvalidNumber ?x_xt_InvalidNumber ?x_xk_InvalidNumber ?x_na_InvalidNumber_value ?x_a_InvalidNumber___init__ ?x_j_InvalidNumber___init__ ?x_i_InvalidNumber___init__ ?x_l_InvalidNumber___init__ ?x_c_InvalidNumber___init__ ?x_k_InvalidNumber___init__ ?x_L_InvalidMark ?x_me_R_InvalidMark ?x_xs_InvalidMark ?x_xe_InvalidMark ?x_xt_InvalidMark ?x_xk_InvalidMark ?x_na_InvalidMark_value ?x_a_InvalidMark___init__ ?x_j_InvalidMark___init__ ?x_i_InvalidMark___init__ ?x_l_InvalidMark___init__ ?x_c_InvalidMark___init__ ?x_k_InvalidMark___init__ ?x_L_InvalidRow ?x_me_R_InvalidRow ?x_xs_InvalidRow ?x_xe_InvalidRow ?x_xt_InvalidRow ?x_xk_InvalidRow ?x_na_InvalidRow_index ?x_a_InvalidRow___init__ ?x_j_InvalidRow___init__ ?x_i_InvalidRow___init__ ?x_l_InvalidRow___init__ ?x_c_InvalidRow___init__ ?x_k_InvalidRow___init__ ?x_me_eh_InputError_InputError ?x_me_eh_InvalidNumber_InputError ?x_me_eh_InvalidMark_InputError ?x_me_eh_InvalidRow_InputError ?x_C_Shortener ?x_pg_Shortener ?x_hd_Shortener ?x_po_Shortener ?x_sa_Shortener ?x_mk_Shortener ?x_kc_Shortener ?x_ha_Shortener ?x_hn_Shortener ?x_ht_Shortener ?x_hm_Shortener ?x_me_Shortener ?x_na_Shortener_limit ?x_na_Shortener_head ?x_na_Shortener_tail ?x_na_Shortener_mark ?x_na_Shortener_told ?x_ne_Shortener ?x_non_Shortener ?x_nos_Shortener ?x_not_Shortener ?x_me_kn_Shortener ?x_me_ks_Shortener ?x_me_ktt_Shortener ?x_me_kt_Shortener_NoneType ?x_me_kt_Shortener_bool ?x_me_kt_Shortener_int ?x_me_kt_Shortener_str ?x_me_kt_Shortener_list ?x_me_kt_Shortener_tuple ?x_me_kt_Shortener_dict ?x_me_kx_Shortener_int ?x_me_kx_Shortener_bool ?x_me_kx_Shortener_str ?x_me_kx_Shortener_list ?x_me_kx_Shortener_tuple ?x_me_kx_Shortener_dict ?x_a_Shortener___init__ ?x_i_Shortener___init__ ?x_l_Shortener___init__ ?x_c_Shortener___init__ ?x_k_Shortener___init__ ?x_a_Shortener_cut ?x_i_Shortener_cut ?x_l_Shortener_cut ?x_c_Shortener_cut ?x_k_Shortener_cut ?x_a_Shortener___eq__ ?x_i_Shortener___eq__ ?x_l_Shortener___eq__ ?x_c_Shortener___eq__ ?x_k_Shortener___eq__ ?x_a_Shortener___repr__ ?x_i_Shortener___repr__ ?x_l_Shortener___repr__ ?x_c_Shortener___repr__ ?x_k_Shortener___repr__ ?x_a_is_integer ?x_i_is_integer ?x_l_is_integer ?x_c_is_integer ?x_k_is_integer ?x_a_is_text ?x_i_is_text ?x_l_is_text ?x_c_is_text ?x_k_is_text ?x_a_is_length ?x_i_is_length ?x_l_is_length ?x_c_is_length ?x_k_is_length ?x_a_with_next ?x_i_with_next ?x_l_with_next ?x_c_with_next ?x_k_with_next ?x_a_check_number ?x_i_check_number ?x_l_check_number ?x_c_check_number ?x_k_check_number ?x_a_check_row ?x_i_check_row ?x_l_check_row ?x_c_check_row ?x_k_check_row ?x_a_cut_by ?x_i_cut_by ?x_l_cut_by ?x_c_cut_by ?x_k_cut_by ?x_a_plan_of ?x_i_plan_of ?x_l_plan_of ?x_c_plan_of ?x_k_plan_of ?x_a_parting_place ?x_i_parting_place ?x_l_parting_place ?x_c_parting_place ?x_k_parting_place ?x_a_parting_text ?x_i_parting_text ?x_l_parting_text ?x_c_parting_text ?x_k_parting_text ?x_a_first_unlike ?x_i_first_unlike ?x_l_first_unlike ?x_c_first_unlike ?x_k_first_unlike ?x_a_first_unstable ?x_i_first_unstable ?x_l_first_unstable ?x_c_first_unstable ?x_k_first_unstable ?x_a_known_signs ?x_i_known_signs ?x_l_known_signs ?x_c_known_signs ?x_k_known_signs ?x_a_shortener_in ?x_i_shortener_in ?x_l_shortener_in ?x_c_shortener_in ?x_k_shortener_in ?x_a_row_in ?x_i_row_in ?x_l_row_in ?x_c_row_in ?x_k_row_in ?x_a_shown_by ?x_i_shown_by ?x_l_shown_by ?x_c_shown_by ?x_k_shown_by ?x_a_is_nothing ?x_i_is_nothing ?x_l_is_nothing ?x_c_is_nothing ?x_k_is_nothing ?x_a_holds_of_two ?x_i_holds_of_two ?x_l_holds_of_two ?x_c_holds_of_two ?x_k_holds_of_two ?x_a_holds_of_one ?x_i_holds_of_one ?x_l_holds_of_one ?x_c_holds_of_one ?x_k_holds_of_one ?x_a_holds_of_shown ?x_i_holds_of_shown ?x_l_holds_of_shown ?x_c_holds_of_shown ?x_k_holds_of_shown ?x_a_holds_of_pair ?x_i_holds_of_pair ?x_l_holds_of_pair ?x_c_holds_of_pair ?x_k_holds_of_pair ?x_a_holds ?x_i_holds ?x_l_holds ?x_c_holds ?x_k_holds ?x_a__law_pot ?x_i__law_pot ?x_l__law_pot ?x_c__law_pot ?x_k__law_pot ?x_a__law_ladle ?x_i__law_ladle ?x_l__law_ladle ?x_c__law_ladle ?x_k__law_ladle ?x_a__law_one_of ?x_i__law_one_of ?x_l__law_one_of ?x_c__law_one_of ?x_k__law_one_of ?x_a__law_good ?x_i__law_good ?x_l__law_good ?x_c__law_good ?x_k__law_good ?x_a__law_odd ?x_i__law_odd ?x_l__law_odd ?x_c__law_odd ?x_k__law_odd ?x_a__law_bent ?x_i__law_bent ?x_l__law_bent ?x_c__law_bent ?x_k__law_bent ?x_a__law_right ?x_i__law_right ?x_l__law_right ?x_c__law_right ?x_k__law_right ?x_a_law ?x_i_law ?x_l_law ?x_c_law ?x_k_law)
    (case kd1_FORMS => k_is)
    (case kd2_FORMS => k_is)
    (case kd3_FORMS => k_keys)
    (case x_n_abs => k_is)
    (case x_n_all => k_is)
    (case x_n_bool => k_is)
    (case x_n_divmod => k_is)
    (case x_n_enumerate => k_is)
    (case x_n_int => k_is)
    (case x_n_isinstance => k_is)
    (case x_n_len => k_is)
    (case x_n_list => k_is)
    (case x_n_max => k_is)
    (case x_n_min => k_is)
    (case x_n_range => k_is)
    (case x_n_str => k_is)
    (case x_n_tuple => k_is)
    (case x_n_zip => k_is)
    (case x_k_MOST_SIGNS => k_is)
    (case x_k_MOST_MARK => k_is)
    (case x_k_MOST_ROW => k_is)
    (case x_k_MOST_TEXT => k_is)
    (case x_k_MOST_LENGTH => k_is)
    (case x_k_SIGNS => k_is)
    (case x_k_LEAST => k_is)
    (case x_k_NEXT => k_is)
    (case x_k_ENOUGH => k_is)
    (case x_m_FORMS => k_is)
    (case x_d_FORMS => k_is)
    (case x_me_FORMS => first | rfl | k_exc | k_is)
    (case x_v_FORMS_0 => k_is)
    (case x_v_FORMS_1 => k_is)
    (case x_v_FORMS_2 => k_is)
    (case x_v_FORMS_3 => k_is)
    (case x_v_FORMS_4 => k_is)
    (case x_v_FORMS_5 => k_is)
    (case x_v_FORMS_6 => k_is)
    (case x_n_FORMS_0 => k_is)
    (case x_n_FORMS_1 => k_is)
    (case x_n_FORMS_2 => k_is)
    (case x_n_FORMS_3 => k_is)
    (case x_C_InputError => k_is)
    (case x_C_InvalidNumber => k_is)
    (case x_C_InvalidMark => k_is)
    (case x_C_InvalidRow => k_is)
    (case x_L_InvalidNumber => k_is)
    (case x_me_R_InvalidNumber => first | rfl | k_exc | k_is)
    (case x_xs_InvalidNumber => k_is)
    (case x_xe_InvalidNumber => k_is)
    (case x_xt_InvalidNumber => k_is)
    (case x_xk_InvalidNumber => k_is)
    (case x_na_InvalidNumber_value => k_is)
    (case x_a_InvalidNumber___init__ => k_is)
    (case x_j_InvalidNumber___init__ => k_is)
    (case x_i_InvalidNumber___init__ => k_is)
    (case x_l_InvalidNumber___init__ => k_is)
    (case x_c_InvalidNumber___init__ => k_is)
    (case x_k_InvalidNumber___init__ => k_is)
    (case x_L_InvalidMark => k_is)
    (case x_me_R_InvalidMark => first | rfl | k_exc | k_is)
    (case x_xs_InvalidMark => k_is)
    (case x_xe_InvalidMark => k_is)
    (case x_xt_InvalidMark => k_is)
    (case x_xk_InvalidMark => k_is)
    (case x_na_InvalidMark_value => k_is)
    (case x_a_InvalidMark___init__ => k_is)
    (case x_j_InvalidMark___init__ => k_is)
    (case x_i_InvalidMark___init__ => k_is)
    (case x_l_InvalidMark___init__ => k_is)
    (case x_c_InvalidMark___init__ => k_is)
    (case x_k_InvalidMark___init__ => k_is)
    (case x_L_InvalidRow => k_is)
    (case x_me_R_InvalidRow => first | rfl | k_exc | k_is)
    (case x_xs_InvalidRow => k_is)
    (case x_xe_InvalidRow => k_is)
    (case x_xt_InvalidRow => k_is)
    (case x_xk_InvalidRow => k_is)
    (case x_na_InvalidRow_index => k_is)
    (case x_a_InvalidRow___init__ => k_is)
    (case x_j_InvalidRow___init__ => k_is)
    (case x_i_InvalidRow___init__ => k_is)
    (case x_l_InvalidRow___init__ => k_is)
    (case x_c_InvalidRow___init__ => k_is)
    (case x_k_InvalidRow___init__ => k_is)
    (case x_me_eh_InputError_InputError => first | rfl | k_exc | k_is)
    (case x_me_eh_InvalidNumber_InputError => first | rfl | k_exc | k_is)
    (case x_me_eh_InvalidMark_InputError => first | rfl | k_exc | k_is)
    (case x_me_eh_InvalidRow_InputError => first | rfl | k_exc | k_is)
    (case x_C_Shortener => k_is)
    (case x_pg_Shortener => k_is)
    (case x_hd_Shortener => k_is)
    (case x_po_Shortener => k_is)
    (case x_sa_Shortener => k_is)
    (case x_mk_Shortener => k_is)
    (case x_kc_Shortener => k_is)
    (case x_ha_Shortener => k_is)
    (case x_hn_Shortener => k_is)
    (case x_ht_Shortener => k_is)
    (case x_hm_Shortener => k_is)
    (case x_me_Shortener => first | rfl | k_exc | k_is)
    (case x_na_Shortener_limit => k_is)
    (case x_na_Shortener_head => k_is)
    (case x_na_Shortener_tail => k_is)
    (case x_na_Shortener_mark => k_is)
    (case x_na_Shortener_told => k_is)
    (case x_ne_Shortener => k_is)
    (case x_non_Shortener => k_is)
    (case x_nos_Shortener => k_is)
    (case x_not_Shortener => k_is)
    (case x_me_kn_Shortener => first | rfl | k_exc | k_is)
    (case x_me_ks_Shortener => first | rfl | k_exc | k_is)
    (case x_me_ktt_Shortener => first | rfl | k_exc | k_is)
    (case x_me_kt_Shortener_NoneType => first | rfl | k_exc | k_is)
    (case x_me_kt_Shortener_bool => first | rfl | k_exc | k_is)
    (case x_me_kt_Shortener_int => first | rfl | k_exc | k_is)
    (case x_me_kt_Shortener_str => first | rfl | k_exc | k_is)
    (case x_me_kt_Shortener_list => first | rfl | k_exc | k_is)
    (case x_me_kt_Shortener_tuple => first | rfl | k_exc | k_is)
    (case x_me_kt_Shortener_dict => first | rfl | k_exc | k_is)
    (case x_me_kx_Shortener_int => first | rfl | k_exc | k_is)
    (case x_me_kx_Shortener_bool => first | rfl | k_exc | k_is)
    (case x_me_kx_Shortener_str => first | rfl | k_exc | k_is)
    (case x_me_kx_Shortener_list => first | rfl | k_exc | k_is)
    (case x_me_kx_Shortener_tuple => first | rfl | k_exc | k_is)
    (case x_me_kx_Shortener_dict => first | rfl | k_exc | k_is)
    (case x_a_Shortener___init__ => k_is)
    (case x_i_Shortener___init__ => k_is)
    (case x_l_Shortener___init__ => k_is)
    (case x_c_Shortener___init__ => k_is)
    (case x_k_Shortener___init__ => k_is)
    (case x_a_Shortener_cut => k_is)
    (case x_i_Shortener_cut => k_is)
    (case x_l_Shortener_cut => k_is)
    (case x_c_Shortener_cut => k_is)
    (case x_k_Shortener_cut => k_is)
    (case x_a_Shortener___eq__ => k_is)
    (case x_i_Shortener___eq__ => k_is)
    (case x_l_Shortener___eq__ => k_is)
    (case x_c_Shortener___eq__ => k_is)
    (case x_k_Shortener___eq__ => k_is)
    (case x_a_Shortener___repr__ => k_is)
    (case x_i_Shortener___repr__ => k_is)
    (case x_l_Shortener___repr__ => k_is)
    (case x_c_Shortener___repr__ => k_is)
    (case x_k_Shortener___repr__ => k_is)
    (case x_a_is_integer => k_is)
    (case x_i_is_integer => k_is)
    (case x_l_is_integer => k_is)
    (case x_c_is_integer => k_is)
    (case x_k_is_integer => k_is)
    (case x_a_is_text => k_is)
    (case x_i_is_text => k_is)
    (case x_l_is_text => k_is)
    (case x_c_is_text => k_is)
    (case x_k_is_text => k_is)
    (case x_a_is_length => k_is)
    (case x_i_is_length => k_is)
    (case x_l_is_length => k_is)
    (case x_c_is_length => k_is)
    (case x_k_is_length => k_is)
    (case x_a_with_next => k_is)
    (case x_i_with_next => k_is)
    (case x_l_with_next => k_is)
    (case x_c_with_next => k_is)
    (case x_k_with_next => k_is)
    (case x_a_check_number => k_is)
    (case x_i_check_number => k_is)
    (case x_l_check_number => k_is)
    (case x_c_check_number => k_is)
    (case x_k_check_number => k_is)
    (case x_a_check_row => k_is)
    (case x_i_check_row => k_is)
    (case x_l_check_row => k_is)
    (case x_c_check_row => k_is)
    (case x_k_check_row => k_is)
    (case x_a_cut_by => k_is)
    (case x_i_cut_by => k_is)
    (case x_l_cut_by => k_is)
    (case x_c_cut_by => k_is)
    (case x_k_cut_by => k_is)
    (case x_a_plan_of => k_is)
    (case x_i_plan_of => k_is)
    (case x_l_plan_of => k_is)
    (case x_c_plan_of => k_is)
    (case x_k_plan_of => k_is)
    (case x_a_parting_place => k_is)
    (case x_i_parting_place => k_is)
    (case x_l_parting_place => k_is)
    (case x_c_parting_place => k_is)
    (case x_k_parting_place => k_is)
    (case x_a_parting_text => k_is)
    (case x_i_parting_text => k_is)
    (case x_l_parting_text => k_is)
    (case x_c_parting_text => k_is)
    (case x_k_parting_text => k_is)
    (case x_a_first_unlike => k_is)
    (case x_i_first_unlike => k_is)
    (case x_l_first_unlike => k_is)
    (case x_c_first_unlike => k_is)
    (case x_k_first_unlike => k_is)
    (case x_a_first_unstable => k_is)
    (case x_i_first_unstable => k_is)
    (case x_l_first_unstable => k_is)
    (case x_c_first_unstable => k_is)
    (case x_k_first_unstable => k_is)
    (case x_a_known_signs => k_is)
    (case x_i_known_signs => k_is)
    (case x_l_known_signs => k_is)
    (case x_c_known_signs => k_is)
    (case x_k_known_signs => k_is)
    (case x_a_shortener_in => k_is)
    (case x_i_shortener_in => k_is)
    (case x_l_shortener_in => k_is)
    (case x_c_shortener_in => k_is)
    (case x_k_shortener_in => k_is)
    (case x_a_row_in => k_is)
    (case x_i_row_in => k_is)
    (case x_l_row_in => k_is)
    (case x_c_row_in => k_is)
    (case x_k_row_in => k_is)
    (case x_a_shown_by => k_is)
    (case x_i_shown_by => k_is)
    (case x_l_shown_by => k_is)
    (case x_c_shown_by => k_is)
    (case x_k_shown_by => k_is)
    (case x_a_is_nothing => k_is)
    (case x_i_is_nothing => k_is)
    (case x_l_is_nothing => k_is)
    (case x_c_is_nothing => k_is)
    (case x_k_is_nothing => k_is)
    (case x_a_holds_of_two => k_is)
    (case x_i_holds_of_two => k_is)
    (case x_l_holds_of_two => k_is)
    (case x_c_holds_of_two => k_is)
    (case x_k_holds_of_two => k_is)
    (case x_a_holds_of_one => k_is)
    (case x_i_holds_of_one => k_is)
    (case x_l_holds_of_one => k_is)
    (case x_c_holds_of_one => k_is)
    (case x_k_holds_of_one => k_is)
    (case x_a_holds_of_shown => k_is)
    (case x_i_holds_of_shown => k_is)
    (case x_l_holds_of_shown => k_is)
    (case x_c_holds_of_shown => k_is)
    (case x_k_holds_of_shown => k_is)
    (case x_a_holds_of_pair => k_is)
    (case x_i_holds_of_pair => k_is)
    (case x_l_holds_of_pair => k_is)
    (case x_c_holds_of_pair => k_is)
    (case x_k_holds_of_pair => k_is)
    (case x_a_holds => k_is)
    (case x_i_holds => k_is)
    (case x_l_holds => k_is)
    (case x_c_holds => k_is)
    (case x_k_holds => k_is)
    (case x_a__law_pot => k_is)
    (case x_i__law_pot => k_is)
    (case x_l__law_pot => k_is)
    (case x_c__law_pot => k_is)
    (case x_k__law_pot => k_is)
    (case x_a__law_ladle => k_is)
    (case x_i__law_ladle => k_is)
    (case x_l__law_ladle => k_is)
    (case x_c__law_ladle => k_is)
    (case x_k__law_ladle => k_is)
    (case x_a__law_one_of => k_is)
    (case x_i__law_one_of => k_is)
    (case x_l__law_one_of => k_is)
    (case x_c__law_one_of => k_is)
    (case x_k__law_one_of => k_is)
    (case x_a__law_good => k_is)
    (case x_i__law_good => k_is)
    (case x_l__law_good => k_is)
    (case x_c__law_good => k_is)
    (case x_k__law_good => k_is)
    (case x_a__law_odd => k_is)
    (case x_i__law_odd => k_is)
    (case x_l__law_odd => k_is)
    (case x_c__law_odd => k_is)
    (case x_k__law_odd => k_is)
    (case x_a__law_bent => k_is)
    (case x_i__law_bent => k_is)
    (case x_l__law_bent => k_is)
    (case x_c__law_bent => k_is)
    (case x_k__law_bent => k_is)
    (case x_a__law_right => k_is)
    (case x_i__law_right => k_is)
    (case x_l__law_right => k_is)
    (case x_c__law_right => k_is)
    (case x_k__law_right => k_is)
    (case x_a_law => k_is)
    (case x_i_law => k_is)
    (case x_l_law => k_is)
    (case x_c_law => k_is)
    (case x_k_law => k_is)
