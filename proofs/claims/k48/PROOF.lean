import PyProof.Rows.All
import Wide.All
import OpenK.AllK
import Wide.FinOn
import PyProof.ReprRoads
import HandS.ForMost
import HandS.ForExc
import HandS.IsInst
import HandS.Codes
import HandS.Star
import HandS.Conv
import HandS.Wide
import HandS.WideBits
import HandS.FStr
import HandS.MakeKwOnly
import HandS.Defaults
import HandS.Flow
import HandS.Style
import KE.GoesEnum
import PyProof.ReprLen
import HandS.TupMul
import HandS.Lambda
import HandS.Steps
import HandS.TupAny
import HandS.Zip
import KE.DataCmp
import KE.SortData
import HandS.Dict
import HandS.SetKeys
import KE.GoesMore
import HandS.CallLocal
import PyProof.P3In
import HandS.OwnEq
import PyProof.Rows.SetFrom
import PyProof.WalksMore
import HandS.More
import PyProof.EqKinds
import PyProof.DictRoadsH
import PyProof.MinMaxWalk
import PyProof.StrOps
import PyProof.TupleOfSeq
import HandS.SetFor
import HandS.Strs
import HandS.WordsExc
import HandS.ExcInit
import HandS.ExcField
import HandS.ExcIs
import HandS.TryMany
import HandS.EndTab
import KE.KExcIs
import KE.KNestM
import KE.KTryMore
import HandS.HotCalls
import PyProof.Rows.Range3
import PyProof.Conv_bool
import HandS.TryOnly
import PySem.Challenge.RW_shownshort_k48_whole_shelves_through_dee
set_option Elab.async false
set_option linter.all false
set_option maxRecDepth 100000
set_option maxHeartbeats 4000000
set_option synthInstance.maxHeartbeats 2000000
set_option synthInstance.maxSize 100000
namespace U
open PySem PySem.Spec PyProof.Rows L2
inductive D where
  | non | bl (b : Bool) | int (i : Int) | str (x : Str) | lst (xs : List D) | tup (xs : List D) | ins (C : Addr) (ns : List Str) (xs : List D)
  | ptr (a : Addr) | ty (n : String) | opq (a : Addr) (o : HO) | ftp (xs : List D)
mutual
/-- v is the datum d in H; no object of it stands in S -/
inductive Dt (S : Addr → Prop) (H : Hp) : V → D → Prop
  | non : Dt S H .non .non
  | bl (b : Bool) : Dt S H (.bl b) (.bl b)
  | int (i : Int) : Dt S H (.int i) (.int i)
  | str (x : Str) : Dt S H (.str x) (.str x)
  | lst {a : Addr} {xs : List V} {ds : List D} : ¬ S a → H a = some (.lst xs) → DtA S H xs ds → Dt S H (.ref a) (.lst ds)
  | tup {a : Addr} {xs : List V} {ds : List D} : ¬ S a → H a = some (.tup xs) → DtA S H xs ds → Dt S H (.ref a) (.tup ds)
  | ins {a C dx : Addr} {fs : List (Str × V)} {ns : List Str} {ds : List D} : ¬ S a → H a = some (.ins C dx fs) → fs.map (·.1) = ns → DtA S H (fs.map (·.2)) ds → Dt S H (.ref a) (.ins C ns ds)
  | ptr (a : Addr) : Dt S H (.ref a) (.ptr a)
  | ty (n : String) : Dt S H (.ty n) (.ty n)
  | opq {a : Addr} {o : HO} : ¬ S a → H a = some o → Dt S H (.ref a) (.opq a o)
  /-- a tuple that is known to have no dict -/
  | ftp {a : Addr} {o : Obj} {xs : List V} {ds : List D} : ¬ S a → H a = some (.frz o (.tup xs)) → o.dict = none → DtA S H xs ds → Dt S H (.ref a) (.ftp ds)
inductive DtA (S : Addr → Prop) (H : Hp) : List V → List D → Prop
  | nil : DtA S H [] []
  | cons {v : V} {vs : List V} {d : D} {ds : List D} : Dt S H v d → DtA S H vs ds → DtA S H (v :: vs) (d :: ds)
end
/-- nothing -/
abbrev N0 : Addr → Prop := fun _ => False
/-- H' holds all that H holds, but what stands in S -/
def Ext (S : Addr → Prop) (H H' : Hp) : Prop := ∀ b o, ¬ S b → H b = some o → H' b = some o
section
variable {S S' : Addr → Prop} {H H1 H2 H' : Hp}
theorem Ext.refl (H : Hp) : Ext S H H := fun _ _ _ h => h
theorem Ext.trans (a : Ext S H H1) (b : Ext S H1 H2) : Ext S H H2 := fun c o n h => b c o n (a c o n h)
theorem Ext.of (e : Same H H') : Ext S H H' := fun b o _ h => e b o h
theorem Same.new {p : Addr} {o : HO} (h : H p = none) : Same H (upd H p o) := fun b u e => by
  rw [upd_ne (ne_of_none e h)]
  exact e
theorem Same.snew {p : Addr} {o : HO} (e : Same H H1) (h : H1 p = none) : Same H (upd H1 p o) := e.trans (Same.new h)
theorem Ext.new {p : Addr} {o : HO} (e : Ext S H H1) (h : H1 p = none) : Ext S H (upd H1 p o) := e.trans (Ext.of (Same.new h))
theorem Ext.mut {p : Addr} {o : HO} (e : Ext S H H1) (h : S p) : Ext S H (upd H1 p o) := fun b u n hb => by
  rw [upd_ne (fun z => n (by rw [z]; exact h))]
  exact e b u n hb
theorem Ext.less (e : Ext S H H1) (h : ∀ a, S a → S' a) : Ext S' H H1 := fun b o n hb => e b o (fun z => n (h b z)) hb
/-- all but one that was not there -/
theorem Ext.same {l : Addr} (e : Ext (fun a => a = l) H H1) (hl : H l = none) : Same H H1 := fun b o h => e b o (fun z => by rw [z, hl] at h; cases h) h
mutual
theorem Dt.mono (e : Ext S H H') : ∀ (d : D) {v : V}, Dt S H v d → Dt S H' v d
  | .non, _, h => by cases h; exact .non
  | .bl b, _, h => by cases h; exact .bl b
  | .int i, _, h => by cases h; exact .int i
  | .str x, _, h => by cases h; exact .str x
  | .lst ds, _, h => by
    cases h with
    | lst n ha hs => exact .lst n (e _ _ n ha) (DtA.mono e ds hs)
  | .tup ds, _, h => by
    cases h with
    | tup n ha hs => exact .tup n (e _ _ n ha) (DtA.mono e ds hs)
  | .ins C ns ds, _, h => by
    cases h with
    | ins n ha hn hs => exact .ins n (e _ _ n ha) hn (DtA.mono e ds hs)
  | .ptr a, _, h => by cases h; exact .ptr a
  | .ty n, _, h => by cases h; exact .ty n
  | .opq a o, _, h => by
    cases h with
    | opq n ha => exact .opq n (e _ _ n ha)
  | .ftp ds, _, h => by
    cases h with
    | ftp n ha hd hs => exact .ftp n (e _ _ n ha) hd (DtA.mono e ds hs)
theorem DtA.mono (e : Ext S H H') : ∀ (ds : List D) {vs : List V}, DtA S H vs ds → DtA S H' vs ds
  | [], _, h => by cases h; exact .nil
  | d :: ds, _, h => by
    cases h with
    | cons h1 h2 => exact .cons (Dt.mono e d h1) (DtA.mono e ds h2)
end
mutual
/-- another set of what may change -/
theorem Dt.set (f : ∀ a, ¬ S a → H a ≠ none → ¬ S' a) : ∀ (d : D) {v : V}, Dt S H v d → Dt S' H v d
  | .non, _, h => by cases h; exact .non
  | .bl b, _, h => by cases h; exact .bl b
  | .int i, _, h => by cases h; exact .int i
  | .str x, _, h => by cases h; exact .str x
  | .lst ds, _, h => by
    cases h with
    | lst n ha hs => exact .lst (f _ n (by rw [ha]; exact fun z => nomatch z)) ha (DtA.set f ds hs)
  | .tup ds, _, h => by
    cases h with
    | tup n ha hs => exact .tup (f _ n (by rw [ha]; exact fun z => nomatch z)) ha (DtA.set f ds hs)
  | .ins C ns ds, _, h => by
    cases h with
    | ins n ha hn hs => exact .ins (f _ n (by rw [ha]; exact fun z => nomatch z)) ha hn (DtA.set f ds hs)
  | .ptr a, _, h => by cases h; exact .ptr a
  | .ty n, _, h => by cases h; exact .ty n
  | .opq a o, _, h => by
    cases h with
    | opq n ha => exact .opq (f _ n (by rw [ha]; exact fun z => nomatch z)) ha
  | .ftp ds, _, h => by
    cases h with
    | ftp n ha hd hs => exact .ftp (f _ n (by rw [ha]; exact fun z => nomatch z)) ha hd (DtA.set f ds hs)
theorem DtA.set (f : ∀ a, ¬ S a → H a ≠ none → ¬ S' a) : ∀ (ds : List D) {vs : List V}, DtA S H vs ds → DtA S' H vs ds
  | [], _, h => by cases h; exact .nil
  | d :: ds, _, h => by
    cases h with
    | cons h1 h2 => exact .cons (Dt.set f d h1) (DtA.set f ds h2)
end
theorem Dt.go {d : D} {v : V} (h : Dt S H v d) (e : Ext S H H') : Dt S H' v d := Dt.mono e d h
theorem Dt.sm {d : D} {v : V} (h : Dt S H v d) (e : Same H H') : Dt S H' v d := Dt.mono (Ext.of e) d h
theorem DtA.go {d : List D} {v : List V} (h : DtA S H v d) (e : Ext S H H') : DtA S H' v d := DtA.mono e d h
theorem DtA.sm {d : List D} {v : List V} (h : DtA S H v d) (e : Same H H') : DtA S H' v d := DtA.mono (Ext.of e) d h
/-- a new object may change from now on -/
theorem Dt.fresh {d : D} {v : V} {l : Addr} (h : Dt S H v d) (hl : H l = none) : Dt (fun a => S a ∨ a = l) H v d :=
  Dt.set (fun a n k z => z.elim n fun q => k (by rw [q]; exact hl)) d h
/-- nothing changes any more -/
theorem Dt.n0 {d : D} {v : V} (h : Dt S H v d) : Dt N0 H v d := Dt.set (fun _ _ _ z => z) d h
theorem DtA.n0 {d : List D} {v : List V} (h : DtA S H v d) : DtA N0 H v d := DtA.set (fun _ _ _ z => z) d h
theorem DtA.length : ∀ {vs : List V} {ds : List D}, DtA S H vs ds → vs.length = ds.length
  | _, _, .nil => rfl
  | _, _, .cons _ t => congrArg Nat.succ (DtA.length t)
theorem DtA.append : ∀ {vs ws : List V} {ds es : List D}, DtA S H vs ds → DtA S H ws es → DtA S H (vs ++ ws) (ds ++ es)
  | _, _, _, _, .nil, k => k
  | _, _, _, _, .cons h t, k => .cons h (DtA.append t k)
theorem DtA.snoc {vs : List V} {ds : List D} {v : V} {d : D} (h : DtA S H vs ds) (k : Dt S H v d) : DtA S H (vs ++ [v]) (ds ++ [d]) := h.append (.cons k .nil)
theorem DtA.get : ∀ {vs : List V} {ds : List D} {i : Nat} {d : D}, DtA S H vs ds → ds[i]? = some d → ∃ v, vs[i]? = some v ∧ Dt S H v d
  | _, _, _, _, .nil, e => by simp at e
  | _, _, 0, _, .cons h _, e => by
    simp at e
    subst e
    exact ⟨_, rfl, h⟩
  | _, _, i + 1, d, .cons _ t, e => by
    obtain ⟨v, h1, h2⟩ := DtA.get (i := i) (d := d) t (by simpa using e)
    exact ⟨v, by simpa using h1, h2⟩
theorem DtA.getV : ∀ {vs : List V} {ds : List D} {i : Nat} {v : V}, DtA S H vs ds → vs[i]? = some v → ∃ d, ds[i]? = some d ∧ Dt S H v d
  | _, _, _, _, .nil, e => by simp at e
  | _, _, 0, _, .cons h _, e => by
    simp at e
    subst e
    exact ⟨_, rfl, h⟩
  | _, _, i + 1, d, .cons _ t, e => by
    obtain ⟨v, h1, h2⟩ := DtA.getV (i := i) (v := d) t (by simpa using e)
    exact ⟨v, by simpa using h1, h2⟩
theorem DtA.take : ∀ {vs : List V} {ds : List D} (n : Nat), DtA S H vs ds → DtA S H (vs.take n) (ds.take n)
  | _, _, 0, _ => .nil
  | _, _, _ + 1, .nil => .nil
  | _, _, n + 1, .cons h t => .cons h (DtA.take n t)
theorem DtA.drop : ∀ {vs : List V} {ds : List D} (n : Nat), DtA S H vs ds → DtA S H (vs.drop n) (ds.drop n)
  | _, _, 0, h => h
  | _, _, _ + 1, .nil => .nil
  | _, _, n + 1, .cons _ t => DtA.drop n t
theorem DtA.reverse : ∀ {vs : List V} {ds : List D}, DtA S H vs ds → DtA S H vs.reverse ds.reverse
  | _, _, .nil => .nil
  | _, _, .cons h t => by
    rw [List.reverse_cons, List.reverse_cons]
    exact (DtA.reverse t).snoc h
theorem DtA.strs_eq : ∀ {vs : List V} {l : List Str}, DtA S H vs (l.map D.str) → vs = l.map V.str
  | _, [], h => by cases h; rfl
  | _, x :: l, h => by
    cases h with
    | cons h1 h2 =>
      cases h1
      rw [DtA.strs_eq h2]
      rfl
theorem DtA.ints_eq : ∀ {vs : List V} {l : List Int}, DtA S H vs (l.map D.int) → vs = l.map V.int
  | _, [], h => by cases h; rfl
  | _, x :: l, h => by
    cases h with
    | cons h1 h2 =>
      cases h1
      rw [DtA.ints_eq h2]
      rfl
theorem DtA.bls_eq : ∀ {vs : List V} {l : List Bool}, DtA S H vs (l.map D.bl) → vs = l.map V.bl
  | _, [], h => by cases h; rfl
  | _, x :: l, h => by
    cases h with
    | cons h1 h2 =>
      cases h1
      rw [DtA.bls_eq h2]
      rfl
end
mutual
def D.flat : D → Bool
  | .lst _ => false
  | .tup ds => D.flats ds
  | .ins _ _ ds => D.flats ds
  | .opq _ _ => false
  | .ftp _ => false
  | _ => true
def D.flats : List D → Bool
  | [] => true
  | d :: ds => D.flat d && D.flats ds
end
mutual
theorem Dt.nl {H : Hp} {l : Addr} {xs : List V} (hl : H l = some (.lst xs)) : ∀ (d : D) {v : V}, D.flat d = true → Dt N0 H v d → Dt (fun a => a = l) H v d
  | .non, _, _, h => by cases h; exact .non
  | .bl b, _, _, h => by cases h; exact .bl b
  | .int i, _, _, h => by cases h; exact .int i
  | .str x, _, _, h => by cases h; exact .str x
  | .lst ds, _, f, _ => by rw [D.flat] at f; cases f
  | .tup ds, _, f, h => by
    rw [D.flat] at f
    cases h with
    | tup n ha hs => exact .tup (fun z => by rw [z, hl] at ha; cases ha) ha (DtA.nl hl ds f hs)
  | .ins C ns ds, _, f, h => by
    rw [D.flat] at f
    cases h with
    | ins n ha hn hs => exact .ins (fun z => by rw [z, hl] at ha; cases ha) ha hn (DtA.nl hl ds f hs)
  | .ptr a, _, _, h => by cases h; exact .ptr a
  | .ty n, _, _, h => by cases h; exact .ty n
  | .opq a o, _, f, h => by rw [D.flat] at f; cases f
  | .ftp ds, _, f, h => by rw [D.flat] at f; cases f
theorem DtA.nl {H : Hp} {l : Addr} {xs : List V} (hl : H l = some (.lst xs)) : ∀ (ds : List D) {vs : List V}, D.flats ds = true → DtA N0 H vs ds → DtA (fun a => a = l) H vs ds
  | [], _, _, h => by cases h; exact .nil
  | d :: ds, _, f, h => by
    rw [D.flats, Bool.and_eq_true] at f
    cases h with
    | cons h1 h2 => exact .cons (Dt.nl hl d f.1 h1) (DtA.nl hl ds f.2 h2)
end
mutual
def D.py : D → Option PyData
  | .non => some .none
  | .bl b => some (.bool b)
  | .int i => some (.int i)
  | .str x => some (.str x)
  | .lst ds => (D.pys ds).map .list
  | .tup ds => (D.pys ds).map .tuple
  | .ftp ds => (D.pys ds).map .tuple
  | _ => none
def D.pys : List D → Option (List PyData)
  | [] => some []
  | d :: ds => match D.py d, D.pys ds with
    | some p, some q => some (p :: q)
    | _, _ => none
end
mutual
theorem Dt.dp {K : PySem.W.Frag} {S : Addr → Prop} {H : Hp} : ∀ (d : D) {v : V} {p : PyData}, Dt S H v d → D.py d = some p → Dp K H v p
  | .non, _, _, h, e => by cases h; cases e; exact .non
  | .bl b, _, _, h, e => by cases h; cases e; exact .bl b
  | .int i, _, _, h, e => by cases h; cases e; exact .int i
  | .str x, _, _, h, e => by cases h; cases e; exact .str x
  | .lst ds, _, _, h, e => by
    cases h with
    | lst n ha hs =>
      rw [D.py] at e
      cases q : D.pys ds with
      | none => rw [q] at e; cases e
      | some l =>
        rw [q] at e
        cases e
        exact .lst (SqL.of ha) (DtA.dp ds hs q)
  | .tup ds, _, _, h, e => by
    cases h with
    | tup n ha hs =>
      rw [D.py] at e
      cases q : D.pys ds with
      | none => rw [q] at e; cases e
      | some l =>
        rw [q] at e
        cases e
        exact .tup (SqT.of ha) (DtA.dp ds hs q)
  | .ins C ns ds, _, _, h, e => by rw [D.py] at e <;> first | cases e | (intros; contradiction)
  | .ptr a, _, _, h, e => by rw [D.py] at e <;> first | cases e | (intros; contradiction)
  | .ty a, _, _, h, e => by rw [D.py] at e <;> first | cases e | (intros; contradiction)
  | .opq a o, _, _, h, e => by rw [D.py] at e <;> first | cases e | (intros; contradiction)
  | .ftp ds, _, _, h, e => by
    cases h with
    | ftp n ha hd hs =>
      rw [D.py] at e
      cases q : D.pys ds with
      | none => rw [q] at e; cases e
      | some l =>
        rw [q] at e
        cases e
        exact .tup (Or.inl (Or.inr ⟨_, ha⟩)) (DtA.dp ds hs q)
theorem DtA.dp {K : PySem.W.Frag} {S : Addr → Prop} {H : Hp} : ∀ (ds : List D) {vs : List V} {ps : List PyData}, DtA S H vs ds → D.pys ds = some ps → DpAll K H vs ps
  | [], _, _, h, e => by cases h; rw [D.pys] at e; cases e; exact .nil
  | d :: ds, _, _, h, e => by
    cases h with
    | cons h1 h2 =>
      rw [D.pys] at e
      cases q1 : D.py d with
      | none => rw [q1] at e; cases e
      | some p =>
        cases q2 : D.pys ds with
        | none => rw [q1, q2] at e; cases e
        | some ps =>
          rw [q1, q2] at e
          cases e
          exact .cons (Dt.dp d h1 q1) (DtA.dp ds h2 q2)
end
end U
namespace U
open PySem PySem.Spec PyProof.Rows L2
/-- a def's promise where no show is under way -/
structure FnG (P : Program) (w : World) (K : PySem.W.Frag) (mg : Str → Option Value) (base : Heap) (k : Nat) (f : Addr) (fd : FuncData) (ps : List Str) (sp : Sp) : Prop where
  len : ∀ vs H Q E, sp vs H Q E → vs.length = ps.length
  run : ∀ (A : Around) (outer : List Env) (s : Shared) (H : Hp) (args : Args) (us : List Value) (vs : List V) (Q : VK) (E : XK), Room k A → A.guards = some [] →
    Env0 P w K mg base A outer s H → BindsTo s fd args (ps.zip us) → Vals vs us → sp vs H Q E → codeAny (model P w) A (.call (.ref f) args) (CR L2.CX0 outer P w H s Q E) s
section
variable {P : Program} {w : World} {K : PySem.W.Frag} {mg : Str → Option Value} {base : Heap} {x qual : Str} {st : Stmt} {f : Addr} {fd : FuncData} {N ps : List Str} {k : Nat} {sp : Sp}
/-- by its body -/
theorem fnG_of (F : L2.Fun K x qual st f fd) (S : FnScope N ps (L2.defScope st)) (len : ∀ vs H Q E, sp vs H Q E → vs.length = ps.length)
    (hb : ∀ (cdv : Value) (A : Around) (outer : List Env) (s : Shared) (H : Hp) (vs : List V) (Q : VK) (E : XK), Room k (A.deeper (envOfC qual (L2.defScope st) s.heap.objs.size f cdv)) → A.guards = some [] → sp vs H Q E →
      ∃ t, PSs (cxOf L2.CX0 P w K mg base N qual (L2.defScope st) f cdv A outer s H E).nox (L2.defBody st) t ∧ t { nx := fun _ H' => Q .non H', rt := Q } (start N vs) H) :
    FnG P w K mg base (k + 1) f fd ps sp := by
  obtain ⟨oc, od, kV, doc, pm, an, cdv, ct, osl, rfl, lk, hcd⟩ := F.ex
  refine ⟨len, fun A outer s H args us vs Q E hr hg e0 hbd r hsp => ?_⟩
  have hl : vs.length = ps.length := len _ _ _ _ hsp
  have KX : K.In s.heap := e0.mod.kin.keeps (fun b o e => (e0.bs b o e).1)
  have lim : s.heap.NoLimit := e0.mod.nolimit.keeps (fun b o e => (e0.bs b o e).1)
  have kinds : ∀ y ∈ ps.zip us, (L2.defScope st).names.lookup y.1 = some .local ∨ ((L2.defScope st).names.lookup y.1 = some .cell ∧ ((cellsFrom (s.heap.objs.size + 1) (L2.defScope st).names []).lookup y.1).isSome = true) := by
    rintro ⟨n, v⟩ hy
    rcases S.par n (List.of_mem_zip hy).1 with q | q
    · exact Or.inl q
    · exact Or.inr ⟨q, PySem.W.cellsFrom_some _ _ _ (Or.inl q)⟩
  have lkd := KX _ _ lk
  have crec := PySem.W.codeRec_of KX hcd
  refine codeAny_call_function hr.depth lkd rfl S.co S.gen rfl crec (hbd _ _ _ _ ?_)
  refine wpAny_newFunctionEnv_cells S.kind kinds (fun env he s1 z => ?_)
  subst he
  refine ⟨lim.keeps z.toInCall.keep, codeAny_func ?_⟩
  have hr1 := hr.deeper (envOfC qual (L2.defScope st) s.heap.objs.size f cdv)
  obtain ⟨t, ht0, hq⟩ := hb cdv A outer s H vs Q E hr1 hg hsp
  have ht := ht0.nox
  have I := inv_start (CX := L2.CX0) (E := E) S hr.hd e0 hl r z
  have go := ht.run [] s1 (start N vs) H _ I hq
  refine wpAny_mono go ?_ (fun e s' hs => hs)
  intro fl s' hs
  cases fl with
  | next =>
    obtain ⟨σ', H', J, q⟩ := hs
    exact ⟨V.non, H', J.os, J.bare, J.base, J.hok, rfl, q⟩
  | brk =>
    obtain ⟨_, _, _, q⟩ := hs
    exact q.elim
  | cont =>
    obtain ⟨_, _, _, q⟩ := hs
    exact q.elim
  | ret u =>
    obtain ⟨v, σ', H', J, rv, q⟩ := hs
    exact ⟨v, H', J.os, J.bare, J.base, J.hok, rv, q⟩
end
section
variable {X : Cx} {k : Nat} {f C : Addr} {fd : FuncData} {ps ks : List Str} {sp : Sp} {x : Str} {p pos : Pos} {e : Expr} {es : List Expr} {t tk : TA} {kws : List Keyword}
/-- x(e, ..), x a def with such a promise -/
theorem pe_callG (F : FnG X.prog X.w X.K X.mg X.base k f fd ps sp) (hr : Room k X.A) (hgd : X.A.guards = some []) (hg : Gl X x) (hm : X.mg x = some (.ref f)) (hk : PySem.W.keepIn X.K (.ref f) = true) (hb : Binds X.K fd ps [])
    (ha : PA X (e :: es) t) (hdb : (x == ("__debug__" : Str)) = false := by decide) (he : starEach (e :: es) X.env = (false, eval e X.env) :: starEach es X.env := by rfl) (hpl : (backTo pos (starEach es X.env)).any (·.1) = false := by rfl) :
    PE X (.Call (.Name x p) (e :: es) [] pos) (tCall sp [] L2.E0 t) := by
  refine ⟨fun pins s σ H Q I h => wpAny_Call_Name_kw (ld_glob I hg hm ?_ hdb)⟩
  have ga := thn (ha.run pos pins s σ H _ I h) (Q' := fun us s1 => X.K.In s1.heap ∧ wpAny (model X.prog X.w) X.A (call (.ref f) us) (EP X pins σ Q) X.xe s1) (fun us s1 hh => by
    obtain ⟨vs, H1, I1, r, q⟩ := hh
    rw [List.append_nil] at q
    refine ⟨I1.kIn, ?_⟩
    have hl : (us ++ []).length = ps.length := by rw [List.append_nil, ← r.length]; exact F.len _ _ _ _ q
    have hbt := hb s1 us I1.kIn hl
    rw [List.append_nil] at hbt
    refine wpAny_call (codeAny_mono (F.run X.A X.stack s1 H1 ⟨us, []⟩ us vs Q L2.E0 hr hgd I1.env0 hbt r q) ?_)
    intro r' s' hq
    cases r' with
    | error z => exact False.elim hq
    | ok fl =>
      cases fl with
      | ret u => exact I1.after hq
      | next => exact False.elim hq
      | brk => exact False.elim hq
      | cont => exact False.elim hq)
  exact PySem.W.callWith_K (h₀ := X.base) I.ok.mod.kin hk ga he hpl
end
end U
namespace U
open PySem PySem.Spec PyProof.Rows L2
section
variable {P : Program} {w : World} {H H1 H2 : Hp} {h h' : Heap} {p : Addr} {o : HO} {φ : Heap → Prop} {fs ex : List Addr}
theorem hok_in (ok : HOk P w H h) (hp : H p = some (.ext φ)) (new : ObjOk P w (upd H p o) h p o) : HOk P w (upd H p o) h := by
  intro b u e
  by_cases hb : b = p
  · subst hb
    rw [upd_same] at e
    cases e
    exact new
  · rw [upd_ne hb] at e
    refine (ok b u e).stay (fun c v _ q => q) (fun c q => ?_) (fun c xs q => ?_)
    · rw [upd_ne (fun z => by rw [z, hp] at q; cases q)]
      exact q
    · rw [upd_ne (fun z => by rw [z, hp] at q; cases q)]
      exact q
theorem hok_out {xs : List V} (ok : HOk P w H h) (hp : H p = some (.lst xs)) (hφ : φ h) (st : ∀ h1 h2 : Heap, φ h1 → (∀ u, h1.get? p = some u → h2.get? p = some u) → φ h2) : HOk P w (upd H p (.ext φ)) h := by
  intro b u e
  by_cases hb : b = p
  · subst hb
    rw [upd_same] at e
    cases e
    obtain ⟨_, its, n, _, z⟩ := ok _ _ hp
    exact ⟨hφ, ⟨_, z⟩, st⟩
  · rw [upd_ne hb] at e
    refine (ok b u e).stay (fun c v _ q => q) (fun c q => ?_) (fun c xs q => ?_)
    · rw [upd_ne (fun z => by rw [z, hp] at q; cases q)]
      exact q
    · rw [upd_ne (fun z => by rw [z, hp] at q; cases q)]
      exact q
theorem un_in (u : Un fs ex (upd H p o) H1 h h') (hp : H p = some (.ext φ)) : Un fs ex H H1 h h' := by
  have nn : ∀ b, H b = none → upd H p o b = none := fun b n => by
    rw [upd_ne (fun z => by rw [z, hp] at n; cases n)]
    exact n
  have ne : ∀ b v, H b = some v → (∀ ψ, v ≠ .ext ψ) → upd H p o b = some v := fun b v e n => by
    rw [upd_ne (fun z => by rw [z, hp] at e; cases e; exact n _ rfl)]
    exact e
  exact ⟨fun b v e n => u.keep b v e (nn b n), fun b v e n => u.slot b v e (nn b n), fun b v e n => u.free b v e (nn b n), u.there,
    fun b xs e => u.tups b xs (ne b _ e (fun _ z => nomatch z)), fun b v t e => u.frzs b v t (ne b _ e (fun _ z => nomatch z)), fun b ps e => u.tbls b ps (ne b _ e (fun _ z => nomatch z))⟩
theorem un_out {xs : List V} (u : Un fs ex H H1 h h') (hp : H1 p = some (.lst xs)) : Un fs ex H (upd H1 p (.ext φ)) h h' := by
  have ne : ∀ b v, H1 b = some v → (∀ ys, v ≠ .lst ys) → upd H1 p (.ext φ) b = some v := fun b v e n => by
    rw [upd_ne (fun z => by rw [z, hp] at e; cases e; exact n _ rfl)]
    exact e
  refine ⟨u.keep, u.slot, fun b v e n hx => ?_, u.there, fun b xs e => ne b _ (u.tups b xs e) (fun _ z => nomatch z), fun b v t e => ne b _ (u.frzs b v t e) (fun _ z => nomatch z), fun b ps e => ?_⟩
  · have z := u.free b v e n hx
    rw [upd_ne (fun q => by rw [q, hp] at z; cases z)]
    exact z
  · obtain ⟨m, e1⟩ := u.tbls b ps e
    exact ⟨m, ne b _ e1 fun _ z => nomatch z⟩
end
def potP (p : Addr) : Heap → Prop := fun h => ∃ (a b c : Int) (its : List Value) (n : Nat), Vals [.int a, .int b, .int c] its ∧ h.get? p = some { cls := .type "list", data := .seq its.toArray n }
def potO (p : Addr) : HO := .ext (potP p)
def Pot (H : Hp) (p : Addr) : Prop := H p = some (potO p)
def potL (a b c : Int) : HO := .lst [.int a, .int b, .int c]
theorem pot_st {p : Addr} : ∀ h1 h2 : Heap, potP p h1 → (∀ u, h1.get? p = some u → h2.get? p = some u) → potP p h2 := fun h1 h2 ⟨a, b, c, its, n, v, e⟩ k => ⟨a, b, c, its, n, v, k _ e⟩
theorem Pot.sm {H H' : Hp} {p : Addr} (h : Pot H p) (e : Same H H') : Pot H' p := e _ _ h
theorem Pot.go {S : Addr → Prop} {H H' : Hp} {p : Addr} (h : Pot H p) (e : Ext S H H') (n : ¬ S p) : Pot H' p := e _ _ n h
section
variable {P : Program} {w : World} {K : PySem.W.Frag} {mg : Str → Option Value} {base : Heap} {k : Nat} {f : Addr} {fd : FuncData} {ps : List Str} {sp sp' : Sp}
/-- a def that changes the pot: from its promise over the list itself -/
theorem fn_pot (F : FnOk P w K mg base L2.CX0 k f fd ps sp) (len : ∀ vs H Q E, sp' vs H Q E → vs.length = ps.length)
    (go : ∀ vs H Q E, sp' vs H Q E → ∃ p, Pot H p ∧ ∀ a b c, sp vs (upd H p (potL a b c)) (fun v H' => (∃ x y z, H' p = some (potL x y z)) ∧ Q v (upd H' p (potO p))) E) :
    FnOk P w K mg base L2.CX0 k f fd ps sp' := by
  refine ⟨len, fun A outer s H args us vs Q E hr e0 hb r hsp => ?_⟩
  obtain ⟨p, hp, g⟩ := go _ _ _ _ hsp
  obtain ⟨⟨a, b, c, its, n, rv, hget⟩, _, _⟩ := e0.hok p _ hp
  have np : ∀ b, H b = none → upd H p (potL a b c) b = none := fun b z => by
    rw [upd_ne (fun q => by rw [q, hp] at z; cases z)]
    exact z
  have np' : ∀ q, H q = none → upd H p (potL a b c) q = none := fun q z => by
    rw [upd_ne (fun t => by rw [t, hp] at z; cases z)]
    exact z
  have e1 : Env0 P w K mg base A outer s (upd H p (potL a b c)) :=
    ⟨e0.frames, e0.mod, fun q o e => ⟨(e0.bs q o e).1, np' q (e0.bs q o e).2⟩, e0.bsz, e0.funs, fun q hq => np' q (e0.frf q hq), hok_in e0.hok hp ⟨by show 3 ≤ sizeLine; decide, its, n, rv, hget⟩, e0.bare⟩
  refine codeAny_mono (F.run A outer s _ args us vs _ E hr e1 hb r (g a b c)) ?_
  intro r' s' hq
  cases r' with
  | error z => exact hq
  | ok fl =>
    cases fl with
    | next => exact hq
    | brk => exact hq
    | cont => exact hq
    | ret u =>
      obtain ⟨v, H', os, bare, un, hok', rel, ⟨x, y, z, hx⟩, q⟩ := hq
      have un2 := un_out (φ := potP p) (un_in un hp) hx
      obtain ⟨_, its', n', rv', e'⟩ := hok' p _ hx
      exact ⟨v, _, os, bare, un2, hok_out hok' hx ⟨x, y, z, its', n', rv', e'⟩ pot_st, rel, q⟩
/-- a def that makes a pot -/
theorem fn_potOut (F : FnOk P w K mg base L2.CX0 k f fd ps sp) (len : ∀ vs H Q E, sp' vs H Q E → vs.length = ps.length)
    (go : ∀ vs H Q E, sp' vs H Q E → sp vs H (fun v H' => ∃ p x y z, H' p = some (potL x y z) ∧ Q v (upd H' p (potO p))) E) :
    FnOk P w K mg base L2.CX0 k f fd ps sp' := by
  refine ⟨len, fun A outer s H args us vs Q E hr e0 hb r hsp => ?_⟩
  refine codeAny_mono (F.run A outer s _ args us vs _ E hr e0 hb r (go _ _ _ _ hsp)) ?_
  intro r' s' hq
  cases r' with
  | error z => exact hq
  | ok fl =>
    cases fl with
    | next => exact hq
    | brk => exact hq
    | cont => exact hq
    | ret u =>
      obtain ⟨v, H', os, bare, un, hok', rel, p, x, y, z, hx, q⟩ := hq
      obtain ⟨_, its', n', rv', e'⟩ := hok' p _ hx
      exact ⟨v, _, os, bare, un_out (φ := potP p) un hx, hok_out hok' hx ⟨x, y, z, its', n', rv', e'⟩ pot_st, rel, q⟩
end
/-- a draw: a number below n -/
def spDraw : Sp := fun vs H Q _ => ∃ (p : Addr) (n : Int), vs = [.ref p, .int n] ∧ Pot H p ∧ (0 < n ∧ n < 1073741824) ∧ ∀ (r : Int) (H' : Hp), Same H H' → 0 ≤ r → r < n → Q (.int r) H'
/-- .. over the list itself -/
def spDraw1 : Sp := fun vs H Q _ => ∃ (p : Addr) (n a b c : Int), vs = [.ref p, .int n] ∧ H p = some (potL a b c) ∧ (0 < n ∧ n < 1073741824) ∧
  ∀ (r x y z : Int) (H' : Hp), Ext (fun q => q = p) H H' → H' p = some (potL x y z) → 0 ≤ r → r < n → Q (.int r) H'
theorem fn_draw {P : Program} {w : World} {K : PySem.W.Frag} {mg : Str → Option Value} {base : Heap} {k : Nat} {f : Addr} {fd : FuncData} {ps : List Str} (F : FnOk P w K mg base L2.CX0 k f fd ps spDraw1) (h2 : ps.length = 2) : FnOk P w K mg base L2.CX0 k f fd ps spDraw := by
  refine fn_pot F (fun vs H Q E h => ?_) (fun vs H Q E h => ?_)
  · obtain ⟨p, n, rfl, _⟩ := h
    rw [h2]
    rfl
  · obtain ⟨p, n, rfl, hp, hn, q⟩ := h
    refine ⟨p, hp, fun a b c => ⟨p, n, a, b, c, rfl, upd_same, hn, fun r x y z H' e hx h0 h1 => ⟨⟨x, y, z, hx⟩, q r _ (fun c o hc => ?_) h0 h1⟩⟩⟩
    by_cases hb : c = p
    · subst hb
      rw [show H c = some (potO c) from hp] at hc
      cases hc
      exact upd_same
    · rw [upd_ne hb]
      exact e c o hb (by rw [upd_ne hb]; exact hc)
def spPot1 (K : PySem.W.Frag) : Sp := fun vs H Q _ => ∃ (a : Addr) (ns : List Int) (i : Nat), vs = [.ref a, .int i] ∧ SqL K H a (ns.map V.int) ∧ ns.length ≤ 63 ∧ i ≤ 63 ∧
  ∀ (p : Addr) (x y z : Int) (H' : Hp), Same H H' → H p = none → H' p = some (potL x y z) → Q (.ref p) H'
end U
namespace U
open PySem PySem.Spec PyProof.Rows L2
section
variable {X : Cx}
def rAddU : R2 := fun x y H Q => match x, y with
  | .int i, .int j => Q (.int (i + j)) H
  | .str a, .str b => a.length + b.length ≤ sizeLine ∧ Q (.str (a ++ b)) H
  | .ref p, .ref q => ∃ xs ys, H p = some (.lst xs) ∧ H q = some (.lst ys) ∧ xs.length + ys.length ≤ sizeLine ∧ ∀ r, H r = none → Q (.ref r) (upd H r (.lst (xs ++ ys)))
  | _, _ => False
theorem op_addU : OpR X (binaryOp .Add) rAddU := by
  intro pins s σ H x y v u Q I rx ry h
  cases x with
  | int i =>
    cases y with
    | int j => exact op_add pins s σ H _ _ v u Q I rx ry ⟨i, j, rfl, rfl, h⟩
    | _ => exact h.elim
  | str a =>
    cases y with
    | str b => exact op_add_str pins s σ H _ _ v u Q I rx ry ⟨a, b, rfl, rfl, h.1, h.2⟩
    | _ => exact h.elim
  | ref p =>
    cases y with
    | ref q =>
      obtain ⟨xs, ys, h1, h2, h3, h4⟩ := h
      exact op_cat pins s σ H _ _ v u Q I rx ry ⟨p, q, xs, ys, rfl, rfl, h1, h2, h3, h4⟩
    | _ => exact h.elim
  | _ => exact h.elim
/-- == of anything: data by their contents -/
def rEqU (K : PySem.W.Frag) : R2 := fun x y H Q => match x, y with
  | .ref p, .ref q => ∃ d e, Dp K H (.ref p) d ∧ Dp K H (.ref q) e ∧ SeqAt.shaped d = true ∧ SeqAt.shaped e = true ∧ Q (.bl (PyData.eqv d e)) H
  | x, y => scal x y = true ∧ Q (.bl (decide (x = y))) H
def rNeU (K : PySem.W.Frag) : R2 := fun x y H Q => match x, y with
  | .ref p, .ref q => ∃ d e, Dp K H (.ref p) d ∧ Dp K H (.ref q) e ∧ SeqAt.shaped d = true ∧ SeqAt.shaped e = true ∧ Q (.bl (!PyData.eqv d e)) H
  | x, y => scal x y = true ∧ Q (.bl (!decide (x = y))) H
theorem op_eqU (hu : X.A.units + 64 < cLine) : OpR X (compareOp .Eq) (rEqU X.K) := by
  intro pins s σ H x y v u Q I rx ry h
  by_cases c : ∃ p q, x = .ref p ∧ y = .ref q
  · obtain ⟨p, q, rfl, rfl⟩ := c
    exact op_eqD hu pins s σ H _ _ v u Q I rx ry h
  · have h' : scal x y = true ∧ Q (.bl (decide (x = y))) H := by
      cases x <;> first | exact h | (cases y <;> first | exact h | exact (c ⟨_, _, rfl, rfl⟩).elim)
    exact op_eq pins s σ H _ _ v u Q I rx ry h'
def rLtU : R2 := fun x y H Q => match x, y with
  | .int i, .int j => Q (.bl (decide (i < j))) H
  | .str i, .str j => Q (.bl (decide (i.cps.toList < j.cps.toList))) H
  | _, _ => False
theorem op_ltU : OpR X (compareOp .Lt) rLtU := by
  intro pins s σ H x y v u Q I rx ry h
  cases x with
  | int i =>
    cases y with
    | int j => exact op_lt pins s σ H _ _ v u Q I rx ry ⟨i, j, rfl, rfl, h⟩
    | _ => exact h.elim
  | str a =>
    cases y with
    | str b => exact op_lt_str pins s σ H _ _ v u Q I rx ry ⟨a, b, rfl, rfl, h⟩
    | _ => exact h.elim
  | _ => exact h.elim
/-- in, not in: a sign in a text, a flat thing in a list or tuple of flat things -/
def rInU (K : PySem.W.Frag) : R2 := fun x y H Q => match y with
  | .str z => ∃ c, x = .str ⟨#[c]⟩ ∧ Q (.bl (decide (c ∈ z.cps.toList))) H
  | .ref p => ∃ xs, (SqL K H p xs ∨ SqT K H p xs) ∧ flatV x = true ∧ xs.all flatV = true ∧ Q (.bl (inV x xs)) H
  | _ => False
def rNinU (K : PySem.W.Frag) : R2 := fun x y H Q => match y with
  | .str z => ∃ c, x = .str ⟨#[c]⟩ ∧ Q (.bl (!decide (c ∈ z.cps.toList))) H
  | .ref p => ∃ xs, (SqL K H p xs ∨ SqT K H p xs) ∧ flatV x = true ∧ xs.all flatV = true ∧ Q (.bl (!inV x xs)) H
  | _ => False
theorem op_inU : OpR X (compareOp .In) (rInU X.K) := by
  intro pins s σ H x y v u Q I rx ry h
  cases y with
  | str z =>
    obtain ⟨c, rfl, q⟩ := h
    exact op_in_sign pins s σ H _ _ v u Q I rx ry ⟨c, z, rfl, rfl, q⟩
  | ref p =>
    obtain ⟨xs, h1, h2, h3, q⟩ := h
    exact op_in_seq pins s σ H _ _ v u Q I rx ry ⟨p, xs, rfl, h1, h2, h3, q⟩
  | _ => exact h.elim
theorem op_ninU : OpR X (compareOp .NotIn) (rNinU X.K) := by
  intro pins s σ H x y v u Q I rx ry h
  cases y with
  | str z =>
    obtain ⟨c, rfl, q⟩ := h
    exact op_notIn_sign pins s σ H _ _ v u Q I rx ry ⟨c, z, rfl, rfl, q⟩
  | ref p =>
    obtain ⟨xs, h1, h2, h3, q⟩ := h
    exact op_notIn_seq pins s σ H _ _ v u Q I rx ry ⟨p, xs, rfl, h1, h2, h3, q⟩
  | _ => exact h.elim
/-- x[i] of a list, a tuple, a text -/
def rIxU (K : PySem.W.Frag) : R2 := fun x y H Q => match x, y with
  | .ref p, .int i => ∃ xs v, (SqL K H p xs ∨ SqT K H p xs) ∧ atI xs i = some v ∧ Q v H
  | .str z, .int i => ∃ c, z.length ≤ sizeLine ∧ atI z.cps.toList i = some c ∧ Q (.str ⟨#[c]⟩) H
  | _, _ => False
theorem ix_U : IxR X (rIxU X.K) := by
  intro value slice pins s σ H x y v u Q I rx ry h hs
  refine ix_seq value slice pins s σ H x y v u Q I rx ry ?_ hs
  cases x with
  | ref p =>
    cases y with
    | int i =>
      obtain ⟨xs, w, h1, h2, q⟩ := h
      rcases h1 with h1 | h1
      · exact .inl ⟨p, xs, i, w, rfl, rfl, h1, h2, q⟩
      · exact .inr (.inl ⟨p, xs, i, w, rfl, rfl, h1, h2, q⟩)
    | _ => exact h.elim
  | str z =>
    cases y with
    | int i =>
      obtain ⟨c, h1, h2, q⟩ := h
      exact .inr (.inr ⟨z, i, c, rfl, rfl, h1, h2, q⟩)
    | _ => exact h.elim
  | _ => exact h.elim
/-- x[i:j] of a list, a text, a tuple that is not taken whole -/
def Sli (K : PySem.W.Frag) (H : Hp) (a : Addr) (lo hi : Option Int) (o : HO) : Prop := (∃ xs, SqL K H a xs ∧ o = .lst (cutV xs lo hi)) ∨
  (∃ xs, SqT K H a xs ∧ ¬ (HT.sIx xs.length 0 lo = 0 ∧ HT.sIx xs.length xs.length hi = xs.length) ∧ o = .tup (cutV xs lo hi))
def rSlU (K : PySem.W.Frag) : V → Option Int → Option Int → Hp → VK → Prop := fun x lo hi H Q => match x with
  | .ref a => ∃ o, Sli K H a lo hi o ∧ ∀ p, H p = none → Q (.ref p) (upd H p o)
  | .str z => z.length ≤ sizeLine ∧ Q (.str (cutS z lo hi)) H
  | _ => False
theorem sl_U : SlR X (rSlU X.K) := by
  intro pins s σ H x v vl vu lo hi sl Q I rx hs pl pu h
  cases x with
  | ref a =>
    obtain ⟨o, h, q⟩ := h
    rcases h with ⟨xs, h1, rfl⟩ | ⟨xs, h1, h2, rfl⟩
    · exact sl_list pins s σ H _ v vl vu lo hi sl Q I rx hs pl pu ⟨a, xs, rfl, h1, q⟩
    · exact sl_tup pins s σ H _ v vl vu lo hi sl Q I rx hs pl pu ⟨a, xs, rfl, h1, h2, q⟩
  | str z => exact sl_str pins s σ H _ v vl vu lo hi sl Q I rx hs pl pu ⟨z, rfl, h.1, h.2⟩
  | _ => exact h.elim
theorem sli_l {K : PySem.W.Frag} {H : Hp} {a : Addr} {lo hi : Option Int} {xs : List V} (h : SqL K H a xs) : Sli K H a lo hi (.lst (cutV xs lo hi)) := .inl ⟨xs, h, rfl⟩
def rLenU (K : PySem.W.Frag) : List V → Hp → VK → Prop := fun xs H Q => match xs with
  | [.str z] => z.length ≤ sizeLine ∧ Q (.int z.length) H
  | [.ref p] => ∃ ys, (SqL K H p ys ∨ SqT K H p ys) ∧ Q (.int ys.length) H
  | _ => False
theorem call_lenU : CallR X (.builtin "len") (rLenU X.K) := by
  intro pins s σ H xs us Q I r h
  match xs, h with
  | [.str z], h => exact call_len_str pins s σ H _ us Q I r ⟨z, rfl, h.1, h.2⟩
  | [.ref p], h =>
    obtain ⟨ys, h1, q⟩ := h
    exact call_len_seq pins s σ H _ us Q I r ⟨p, ys, rfl, h1, q⟩
/-- int(n) of an int -/
def rInt1 : List V → Hp → VK → Prop := fun xs H Q => match xs with
  | [.int i] => Q (.int i) H
  | _ => False
theorem call_intU : CallR X (.type "int") rInt1 := by
  intro pins s σ H xs us Q I r h
  match xs, h with
  | [.int i], h => exact call_int1 pins s σ H _ us Q I r (.inl ⟨i, rfl, h⟩)
def rI1 (f : Int → V) : List V → Hp → VK → Prop := fun xs H Q => match xs with
  | [.int i] => Q (f i) H
  | _ => False
def rI2 (f : Int → Int → V) : List V → Hp → VK → Prop := fun xs H Q => match xs with
  | [.int i, .int j] => Q (f i j) H
  | _ => False
theorem call_absU : CallR X (.builtin "abs") (rI1 fun i => .int (if i < 0 then -i else i)) := by
  intro pins s σ H xs us Q I r h
  match xs, h with
  | [.int i], h => exact call_abs pins s σ H _ us Q I r ⟨i, rfl, h⟩
theorem call_maxU (hc : X.calm = true) : CallR X (.builtin "max") (rI2 fun i j => .int (if j > i then j else i)) := by
  intro pins s σ H xs us Q I r h
  match xs, h with
  | [.int i, .int j], h => exact call_max2 hc pins s σ H _ us Q I r ⟨i, j, rfl, h⟩
theorem call_minU (hc : X.calm = true) : CallR X (.builtin "min") (rI2 fun i j => .int (if j < i then j else i)) := by
  intro pins s σ H xs us Q I r h
  match xs, h with
  | [.int i, .int j], h => exact call_min2 hc pins s σ H _ us Q I r ⟨i, j, rfl, h⟩
end
section
variable {σ : L2.St} {H : Hp} {Q : VK} {K : PySem.W.Frag} {D' : Ends}
theorem e_var {i : Nat} : tVar i σ H Q = ∃ v, σ[i]? = some (some v) ∧ Q v H := rfl
theorem e_c {v : V} : tC v σ H Q = Q v H := rfl
theorem e_op {r : R2} {ta tb : TE} : tOp r ta tb σ H Q = ta σ H fun x H1 => tb σ H1 fun y H2 => r x y H2 Q := rfl
theorem e_un {r : V → Hp → VK → Prop} {ta : TE} : tUn r ta σ H Q = ta σ H fun x H1 => r x H1 Q := rfl
theorem e_nil {R : List V → Hp → Prop} : tNil σ H R = R [] H := rfl
theorem e_cons {ta : TE} {tr : TA} {R : List V → Hp → Prop} : tCons ta tr σ H R = ta σ H fun x H1 => tr σ H1 fun xs H2 => R (x :: xs) H2 := rfl
theorem e_cb {r : List V → Hp → VK → Prop} {t : TA} : tCB r t σ H Q = t σ H fun vs H1 => r vs H1 Q := rfl
theorem e_call {sp : Sp} {dvs : List V} {E : XK} {t : TA} : tCall sp dvs E t σ H Q = t σ H fun vs H1 => sp (vs ++ dvs) H1 Q E := rfl
theorem e_tup {t : TA} : tTup t σ H Q = t σ H fun xs H1 => xs.length ≤ sizeLine ∧ ∀ p, H1 p = none → Q (.ref p) (upd H1 p (.tup xs)) := rfl
theorem e_lst {t : TA} : tLst t σ H Q = t σ H fun xs H1 => xs.length ≤ sizeLine ∧ ∀ p, H1 p = none → Q (.ref p) (upd H1 p (.lst xs)) := rfl
theorem e_if {t : TT} {ta tb : TE} : tIf t ta tb σ H Q = t σ H fun c H1 => if c = true then ta σ H1 Q else tb σ H1 Q := rfl
theorem e_andV {ta tb : TE} : tAndV ta tb σ H Q = ta σ H fun x H1 => ∃ c, x = .bl c ∧ if c = true then tb σ H1 Q else Q (.bl false) H1 := rfl
theorem e_orV {ta tb : TE} : tOrV ta tb σ H Q = ta σ H fun x H1 => ∃ c, x = .bl c ∧ if c = true then Q (.bl true) H1 else tb σ H1 Q := rfl
theorem e_notV {ta : TE} : tNotV ta σ H Q = ta σ H fun x H1 => ∃ c, x = .bl c ∧ Q (.bl (!c)) H1 := rfl
theorem e_chain {r r' : R2} {ta tb tc : TE} : tChain r r' ta tb tc σ H Q = ta σ H fun x H1 => tb σ H1 fun y H2 => r x y H2 fun z H3 => ∃ k, z = .bl k ∧ (if k = true then tc σ H3 fun w' H4 => r' y w' H4 Q else Q (.bl false) H3) := rfl
theorem e_test {te : TE} {R : Bool → Hp → Prop} : tTest te σ H R = te σ H fun x H1 => ∃ b, x = .bl b ∧ R b H1 := rfl
theorem e_B {te : TE} {R : Bool → Hp → Prop} : tB te σ H R = te σ H fun x H1 => ∃ b, x = .bl b ∧ R b H1 := rfl
theorem e_and {t u : TT} {R : Bool → Hp → Prop} : tAnd t u σ H R = t σ H fun c H1 => if c = true then u σ H1 R else R false H1 := rfl
theorem e_or {t u : TT} {R : Bool → Hp → Prop} : tOr t u σ H R = t σ H fun c H1 => if c = true then R true H1 else u σ H1 R := rfl
theorem e_not {t : TT} {R : Bool → Hp → Prop} : tNot t σ H R = t σ H fun c H1 => R (!c) H1 := rfl
theorem e_asg {te : TE} {g : TG} : tAsg te g D' σ H = te σ H fun v H1 => g v σ H1 D'.nx := rfl
theorem e_name {i : Nat} {v : V} {R : L2.St → Hp → Prop} : gName i v σ H R = R (σ.set i (some v)) H := rfl
theorem e_seq {t u : TS} : tSeq t u D' σ H = t { D' with nx := u D' } σ H := rfl
theorem e_next : tNext D' σ H = D'.nx σ H := rfl
theorem e_ret {te : TE} : tRet te D' σ H = te σ H D'.rt := rfl
theorem e_ifS {t : TT} {u w : TS} : tIfS t u w D' σ H = t σ H fun c H1 => if c = true then u D' σ H1 else w D' σ H1 := rfl
theorem e_drop {te : TE} : tDrop te D' σ H = te σ H fun _ H1 => D'.nx σ H1 := rfl
theorem e_part {te : TE} {R : Option Int → Hp → Prop} : tPart te σ H R = te σ H fun v H1 => ∃ i, v = .int i ∧ R (some i) H1 := rfl
theorem e_noPart {R : Option Int → Hp → Prop} : tNoPart σ H R = R none H := rfl
theorem e_sl {r : V → Option Int → Option Int → Hp → VK → Prop} {te : TE} {tl th : TO} : tSl r te tl th σ H Q = te σ H fun x H1 => tl σ H1 fun lo H2 => th σ H2 fun hi H3 => r x lo hi H3 Q := rfl
theorem e_I0 {f : Int → Int → V} {i j : Int} : rI0 f (.int i) (.int j) H Q = Q (f i j) H := by
  apply propext
  constructor
  · rintro ⟨a, b, h1, h2, q⟩
    cases h1
    cases h2
    exact q
  · exact fun q => ⟨i, j, rfl, rfl, q⟩
theorem e_I {C : Int → Int → Prop} {f : Int → Int → V} {i j : Int} : rI C f (.int i) (.int j) H Q = (C i j ∧ Q (f i j) H) := by
  apply propext
  constructor
  · rintro ⟨a, b, h1, h2, q⟩
    cases h1
    cases h2
    exact q
  · exact fun q => ⟨i, j, rfl, rfl, q⟩
theorem e_exbl {b : Bool} {R : Bool → Prop} : (∃ c, V.bl b = V.bl c ∧ R c) = R b := by
  apply propext
  constructor
  · rintro ⟨c, h, r⟩
    cases h
    exact r
  · exact fun r => ⟨b, rfl, r⟩
theorem e_exint {b : Int} {R : Int → Prop} : (∃ c, V.int b = V.int c ∧ R c) = R b := by
  apply propext
  constructor
  · rintro ⟨c, h, r⟩
    cases h
    exact r
  · exact fun r => ⟨b, rfl, r⟩
theorem e_exstr {b : Str} {R : Str → Prop} : (∃ c, V.str b = V.str c ∧ R c) = R b := by
  apply propext
  constructor
  · rintro ⟨c, h, r⟩
    cases h
    exact r
  · exact fun r => ⟨b, rfl, r⟩
theorem e_exsome {b : V} {R : V → Prop} : (∃ c, (some (some b) : Option (Option V)) = some (some c) ∧ R c) = R b := by
  apply propext
  constructor
  · rintro ⟨c, h, r⟩
    cases h
    exact r
  · exact fun r => ⟨b, rfl, r⟩
theorem e_pair {i j : Nat} {ta : TA} : tPar i j ta D' σ H = ta σ H fun vs H1 => ∃ v w, vs = [v, w] ∧ D'.nx ((σ.set i (some v)).set j (some w)) H1 := rfl
theorem e_expair {v w : V} {R : V → V → Prop} : (∃ a b, [v, w] = [a, b] ∧ R a b) = R v w := by
  apply propext
  constructor
  · rintro ⟨a, b, h, r⟩
    cases h
    exact r
  · exact fun r => ⟨v, w, rfl, r⟩
end
end U
namespace U
open PySem PySem.Spec PyProof.Rows L2
section
variable {σ : L2.St} {H : Hp} {Q : VK} {K : PySem.W.Frag}
theorem e_m1 {r : V → List V → Hp → VK → Prop} {to te : TE} : tM1 r to te σ H Q = to σ H fun x H1 => (∃ a, x = .str a) ∧ te σ H1 fun y H2 => r x [y] H2 Q := rfl
theorem e_m0 {r : V → List V → Hp → VK → Prop} {to : TE} : tM0 r to σ H Q = to σ H fun x H1 => (∃ a, x = .str a) ∧ r x [] H1 Q := rfl
theorem e_bm {T : String} {r : V → List V → Hp → VK → Prop} {to : TE} {t : TA} : tBM K T r to t σ H Q = to σ H fun x H1 => tyV K T x H1 ∧ t σ H1 fun xs H2 => r x xs H2 Q := rfl
theorem e_bm0 {T : String} {r : V → List V → Hp → VK → Prop} {to : TE} : tBM0 K T r to σ H Q = to σ H fun x H1 => tyV K T x H1 ∧ r x [] H1 Q := rfl
theorem e_fld {to : TE} {f : Str} : tFld K to f σ H Q = to σ H fun x H1 => ∃ a C dx fs v, x = .ref a ∧ H1 a = some (.ins C dx fs) ∧ Cls K C ∧ NoAttr K C f ∧ fs.lookup f = some v ∧ Q v H1 := rfl
end
end U
namespace U
open PySem PySem.Spec PyProof.Rows L2
section
variable {X : Cx} {x : Str} {pos : Pos} {a : Addr}
/-- a built-in class, a class or def of the module, as a value -/
theorem pe_bt (n : String) (hg : Gl X x) (hm : X.mg x = none) (hv : bootBuiltins x = some (.type n)) (hn : x ≠ "__name__" := by decide) (hd : (x == ("__debug__" : Str)) = false := by decide) : PE X (.Name x pos) (tC (.ty n)) :=
  pe_bltn hg hm hv rfl hn hd
theorem pe_gref (hg : Gl X x) (hm : X.mg x = some (.ref a)) (hd : (x == ("__debug__" : Str)) = false := by decide) : PE X (.Name x pos) (tC (.ref a)) := pe_glob (v := .ref a) hg hm rfl hd
end
end U
namespace U
open PySem PySem.Spec PyProof.Rows L2
/-- the signs of a text, each a text -/
def signsV (z : Str) : List V := z.cps.toList.map fun c => V.str ⟨#[c]⟩
def rListU (K : PySem.W.Frag) : List V → Hp → VK → Prop := fun xs H Q => match xs with
  | [.ref p] => ∃ ys, (SqL K H p ys ∨ SqT K H p ys) ∧ ∀ l, H l = none → Q (.ref l) (upd H l (.lst ys))
  | [.str z] => z.length ≤ sizeLine ∧ ∀ l, H l = none → Q (.ref l) (upd H l (.lst (signsV z)))
  | _ => False
def pk0 {α : Type} : List α → List α := fun l => l
end U
namespace U
open PySem PySem.Spec PyProof.Rows L2
/-- J walks n items, wherever what stood in H0 (but S) still stands; it: the item, the heap ahead of the turn and behind the draw -/
structure Src (S : Addr → Prop) (J : It) (H0 : Hp) (n : Nat) (it : Nat → V → Hp → Hp → Prop) : Prop where
  stop : ∀ H', Ext S H0 H' → J.stop n H'
  go : ∀ i H', i < n → Ext S H0 H' → J.go i H'
  yld : ∀ i H' x H2, i < n → Ext S H0 H' → J.yld i H' x H2 → it i x H' H2
section
variable {K : PySem.W.Frag} {S : Addr → Prop} {H0 : Hp} {a : Addr} {xs : List V}
theorem src_list (h : H0 a = some (.lst xs)) (n : ¬ S a) : Src S (Itl K a) H0 xs.length (fun i x H' H2 => H2 = H' ∧ xs[i]? = some x) := by
  refine ⟨fun H' e => ⟨xs, SqL.of (e _ _ n h), Nat.le_refl _⟩, fun i H' hi e => ⟨xs, xs[i], SqL.of (e _ _ n h), by simp [hi]⟩, fun i H' x H2 hi e y => ?_⟩
  obtain ⟨q, y⟩ := y
  exact ⟨q, y xs (SqL.of (e _ _ n h))⟩
theorem src_rng (lo : Int) (n : Nat) : Src S (Itr lo n) H0 n (fun i x H' H2 => H2 = H' ∧ x = .int (lo + (i : Nat))) :=
  ⟨fun _ _ => Nat.le_refl _, fun _ _ hi _ => hi, fun _ _ _ _ _ _ y => y⟩
end
/-- a comprehension: I says which data may have been gathered behind i turns -/
theorem lc_core {J : It} {H1 : Hp} {n : Nat} {it : Nat → V → Hp → Hp → Prop} {g : TG} {tt : TT} {te : TE} {vs : List Nat} {σ : L2.St} {Q : VK} {D0 : Addr} (hD : H1 D0 = none) (src : Src (fun a => a = D0) J H1 n it) (hn : n ≤ 16777216)
    (I : Nat → List D → Prop) (i0 : I 0 [])
    (step : ∀ i ds H', i < n → I i ds → Ext (fun a => a = D0) H1 H' → ∀ x H2, it i x H' H2 → ∀ (Ky : VK) (Kn : Hp → Prop), (∀ y H5 d, Same H' H5 → Dt N0 H5 y d → D.flat d = true → I (i + 1) (ds ++ [d]) → Ky y H5) → (∀ H5, Same H' H5 → I (i + 1) ds → Kn H5) →
      g x (wipe σ vs) H2 fun σ2 H3 => wipe σ2 vs = wipe σ vs ∧ tt σ2 H3 fun b H4 => if b = true then te σ2 H4 Ky else Kn H4)
    (fin : ∀ H' ds, I n ds → ds.length ≤ n → Same H1 H' → Dt N0 H' (.ref D0) (.lst ds) → Q (.ref D0) H') :
    ∃ W : Nat → Nat → Hp → Prop, (∃ m, W 0 m (upd H1 D0 (.lst []))) ∧ ∀ i m H, W i m H →
      (J.stop i H ∧ Q (.ref D0) H) ∨ (J.go i H ∧ ∃ Nx : Hp → Prop, (∀ H', Nx H' → ∃ m', m' < m ∧ W (i + 1) m' H') ∧ ∀ x H', J.yld i H x H' → g x (wipe σ vs) H' fun σ2 H2 => wipe σ2 vs = wipe σ vs ∧ tt σ2 H2 fun b H3 =>
        if b = true then te σ2 H3 fun y H4 => ∃ acc, H4 D0 = some (.lst acc) ∧ acc.length < sizeLine ∧ Nx (upd H4 D0 (.lst (acc ++ [y]))) else Nx H3) := by
  refine ⟨fun i m H => m = n - i ∧ i ≤ n ∧ Ext (fun a => a = D0) H1 H ∧ ∃ ws ds, H D0 = some (.lst ws) ∧ DtA (fun a => a = D0) H ws ds ∧ I i ds ∧ ds.length ≤ i, ⟨n, rfl, Nat.zero_le _, ?_, [], [], upd_same, .nil, i0, Nat.le_refl _⟩, ?_⟩
  · exact Ext.mut (Ext.refl _) rfl
  · rintro i m H ⟨rfl, hi, hE, ws, ds, hL, hA, hI, hlen⟩
    by_cases hlt : i < n
    · refine .inr ⟨src.go i H hlt hE, fun H' => ∃ ws ds, Ext (fun a => a = D0) H1 H' ∧ H' D0 = some (.lst ws) ∧ DtA (fun a => a = D0) H' ws ds ∧ I (i + 1) ds ∧ ds.length ≤ i + 1, ?_, ?_⟩
      · rintro H' ⟨ws', ds', hE', hL', hA', hI', hl'⟩
        exact ⟨n - (i + 1), by omega, rfl, hlt, hE', ws', ds', hL', hA', hI', hl'⟩
      · intro x H2 hy
        refine step i ds H hlt hI hE x H2 (src.yld i H x H2 hlt hE hy) _ _ ?_ ?_
        · intro y H5 d hS hd0 hfl hI'
          have hd := Dt.nl (hS _ _ hL) d hfl hd0
          refine ⟨ws, hS _ _ hL, ?_, ws ++ [y], ds ++ [d], ?_, upd_same, ?_, hI', by rw [List.length_append, List.length_singleton]; omega⟩
          · rw [hA.length]
            exact Nat.lt_of_le_of_lt hlen (Nat.lt_of_lt_of_le hlt (by rw [sizeLine_eq]; exact hn))
          · exact Ext.mut (hE.trans (Ext.of hS)) rfl
          · have z : DtA (fun a => a = D0) H5 (ws ++ [y]) (ds ++ [d]) := (hA.sm hS).snoc hd
            exact z.go (Ext.mut (Ext.refl _) rfl)
        · intro H5 hS hI'
          exact ⟨ws, ds, hE.trans (Ext.of hS), hS _ _ hL, hA.sm hS, hI', by omega⟩
    · have e : i = n := by omega
      subst e
      refine .inl ⟨src.stop H hE, fin H ds hI hlen (hE.same hD) ?_⟩
      exact .lst (fun z => z) hL hA.n0
/-- the step of a comprehension -/
abbrev LcStep (H1 : Hp) (D0 : Addr) (n : Nat) (it : Nat → V → Hp → Hp → Prop) (I : Nat → List D → Prop) (g : TG) (tt : TT) (te : TE) (vs : List Nat) (σ : L2.St) : Prop :=
  ∀ i ds H', i < n → I i ds → Ext (fun a => a = D0) H1 H' → ∀ x H2, it i x H' H2 → ∀ (Ky : VK) (Kn : Hp → Prop), (∀ y H5 d, Same H' H5 → Dt N0 H5 y d → D.flat d = true → I (i + 1) (ds ++ [d]) → Ky y H5) → (∀ H5, Same H' H5 → I (i + 1) ds → Kn H5) →
      g x (wipe σ vs) H2 fun σ2 H3 => wipe σ2 vs = wipe σ vs ∧ tt σ2 H3 fun b H4 => if b = true then te σ2 H4 Ky else Kn H4
abbrev LcFin (H1 : Hp) (D0 : Addr) (n : Nat) (I : Nat → List D → Prop) (Q : VK) : Prop := ∀ H' ds, I n ds → ds.length ≤ n → Same H1 H' → Dt N0 H' (.ref D0) (.lst ds) → Q (.ref D0) H'
/-- a comprehension that walks J -/
def LcOn (J : It) (g : TG) (tt : TT) (te : TE) (vs : List Nat) (σ : L2.St) (Q : VK) (H1 : Hp) : Prop := ∀ D, H1 D = none → ∃ W : Nat → Nat → Hp → Prop, (∃ m, W 0 m (upd H1 D (.lst []))) ∧ ∀ i m H, W i m H →
  (J.stop i H ∧ Q (.ref D) H) ∨ (J.go i H ∧ ∃ Nx : Hp → Prop, (∀ H', Nx H' → ∃ m', m' < m ∧ W (i + 1) m' H') ∧ ∀ x H', J.yld i H x H' → g x (wipe σ vs) H' fun σ2 H2 => wipe σ2 vs = wipe σ vs ∧ tt σ2 H2 fun b H3 =>
    if b = true then te σ2 H3 fun y H4 => ∃ acc, H4 D = some (.lst acc) ∧ acc.length < sizeLine ∧ Nx (upd H4 D (.lst (acc ++ [y]))) else Nx H3)
def rLcL (K : PySem.W.Frag) (g : TG) (tt : TT) (te : TE) (vs : List Nat) (σ : L2.St) (Q : VK) (x : V) (H1 : Hp) : Prop := ∃ a, x = .ref a ∧ (∃ xs, SqL K H1 a xs) ∧ LcOn (Itl K a) g tt te vs σ Q H1
def rLcT (K : PySem.W.Frag) (g : TG) (tt : TT) (te : TE) (vs : List Nat) (σ : L2.St) (Q : VK) (x : V) (H1 : Hp) : Prop := ∃ a, x = .ref a ∧ (∃ xs, SqT K H1 a xs) ∧ LcOn (Itt K a) g tt te vs σ Q H1
def rLcS (g : TG) (tt : TT) (te : TE) (vs : List Nat) (σ : L2.St) (Q : VK) (x : V) (H1 : Hp) : Prop := ∃ z, x = .str z ∧ LcOn (Its z) g tt te vs σ Q H1
def rLcR (g : TG) (tt : TT) (te : TE) (vs : List Nat) (σ : L2.St) (Q : VK) (x : List V) (H1 : Hp) : Prop := ∃ j : Int, x = [.int j] ∧ -(2 ^ 62) ≤ j ∧ j < 2 ^ 62 ∧ LcOn (Itr 0 j.toNat) g tt te vs σ Q H1
def rLcR2 (g : TG) (tt : TT) (te : TE) (vs : List Nat) (σ : L2.St) (Q : VK) (x : List V) (H1 : Hp) : Prop := ∃ i j : Int, x = [.int i, .int j] ∧ (-(2 ^ 62) ≤ i ∧ i < 2 ^ 62 ∧ -(2 ^ 62) ≤ j ∧ j < 2 ^ 62) ∧ LcOn (Itr i (j - i).toNat) g tt te vs σ Q H1
section
variable {K : PySem.W.Frag} {H H1 : Hp} {a : Addr} {xs : List V} {g : TG} {tt : TT} {te tl : TE} {vs : List Nat} {σ : L2.St} {Q : VK} {ta : TA}
theorem e_lcL : tLc (iList K tl) g tt te vs σ H Q = tl σ H fun x H1 => rLcL K g tt te vs σ Q x H1 := rfl
theorem e_lcT : tLc (iTup K tl) g tt te vs σ H Q = tl σ H fun x H1 => rLcT K g tt te vs σ Q x H1 := rfl
theorem e_lcS : tLc (iStr tl) g tt te vs σ H Q = tl σ H fun x H1 => rLcS g tt te vs σ Q x H1 := rfl
theorem e_lcR : tLc (iRng1 ta) g tt te vs σ H Q = ta σ H fun x H1 => rLcR g tt te vs σ Q x H1 := rfl
theorem e_lcR2 : tLc (iRng2 ta) g tt te vs σ H Q = ta σ H fun x H1 => rLcR2 g tt te vs σ Q x H1 := rfl
theorem ne_fresh {D0 : Addr} {o : HO} (h : H1 a = some o) (hD : H1 D0 = none) : ¬ a = D0 := ne_of_none h hD
theorem lcR {n : Int} (hn : n ≤ 16777216) (hn0 : -16777216 ≤ n) (I : Nat → List D → Prop) (i0 : I 0 [])
    (step : ∀ D0, H1 D0 = none → LcStep H1 D0 n.toNat (fun i x H' H2 => H2 = H' ∧ x = .int (i : Nat)) I g tt te vs σ) (fin : ∀ D0, H1 D0 = none → LcFin H1 D0 n.toNat I Q) : rLcR g tt te vs σ Q [.int n] H1 := by
  refine ⟨n, rfl, by omega, by omega, fun D0 hD => lc_core hD (src_rng 0 n.toNat) (by omega) I i0 ?_ (fin D0 hD)⟩
  rintro i ds H' hi hI hE x H2 ⟨e1, e2⟩
  exact step D0 hD i ds H' hi hI hE x H2 ⟨e1, by rw [e2, Int.zero_add]⟩
end
theorem for_core {J : It} {H1 : Hp} {n : Nat} {it : Nat → V → Hp → Hp → Prop} {S : Addr → Prop} {g : TG} {tb : TS} {σ : L2.St} {D0 : Ends} (src : Src S J H1 n it)
    (I : Nat → L2.St → Hp → Prop) (i0 : I 0 σ H1) (stay : ∀ i σ' H', I i σ' H' → Ext S H1 H')
    (step : ∀ i σ' H', i < n → I i σ' H' → ∀ x H2, it i x H' H2 → g x σ' H2 fun σ2 H3 => tb { D0 with nx := I (i + 1), ct := I (i + 1), bk := D0.nx } σ2 H3)
    (fin : ∀ σ' H', I n σ' H' → D0.nx σ' H') :
    ∃ W : Nat → Nat → L2.St → Hp → Prop, (∃ m, W 0 m σ H1) ∧ ∀ i m σ H, W i m σ H →
      (J.stop i H ∧ D0.nx σ H) ∨ (J.go i H ∧ ∃ N : L2.St → Hp → Prop, (∀ σ' H', N σ' H' → ∃ m', m' < m ∧ W (i + 1) m' σ' H') ∧ ∀ x H', J.yld i H x H' → g x σ H' fun σ2 H2 => tb { D0 with nx := N, ct := N, bk := D0.nx } σ2 H2) := by
  refine ⟨fun i m σ' H' => m = n - i ∧ i ≤ n ∧ I i σ' H', ⟨n, rfl, Nat.zero_le _, i0⟩, ?_⟩
  rintro i m σ' H' ⟨rfl, hi, hI⟩
  by_cases hlt : i < n
  · refine .inr ⟨src.go i H' hlt (stay _ _ _ hI), I (i + 1), fun σ2 H2 q => ⟨n - (i + 1), by omega, rfl, hlt, q⟩, fun x H2 y => ?_⟩
    exact step i σ' H' hlt hI x H2 (src.yld i H' x H2 hlt (stay _ _ _ hI) y)
  · have e : i = n := by omega
    subst e
    exact .inl ⟨src.stop H' (stay _ _ _ hI), fin σ' H' hI⟩
/-- a loop that walks J -/
def ForOn (J : It) (g : TG) (tb : TS) (D0 : Ends) (σ : L2.St) (H1 : Hp) : Prop := ∃ W : Nat → Nat → L2.St → Hp → Prop, (∃ m, W 0 m σ H1) ∧ ∀ i m σ H, W i m σ H →
  (J.stop i H ∧ D0.nx σ H) ∨ (J.go i H ∧ ∃ N : L2.St → Hp → Prop, (∀ σ' H', N σ' H' → ∃ m', m' < m ∧ W (i + 1) m' σ' H') ∧ ∀ x H', J.yld i H x H' → g x σ H' fun σ2 H2 => tb { D0 with nx := N, ct := N, bk := D0.nx } σ2 H2)
def rForL (K : PySem.W.Frag) (g : TG) (tb : TS) (D0 : Ends) (σ : L2.St) (x : V) (H1 : Hp) : Prop := ∃ a, x = .ref a ∧ (∃ xs, SqL K H1 a xs) ∧ ForOn (Itl K a) g tb D0 σ H1
def rForT (K : PySem.W.Frag) (g : TG) (tb : TS) (D0 : Ends) (σ : L2.St) (x : V) (H1 : Hp) : Prop := ∃ a, x = .ref a ∧ (∃ xs, SqT K H1 a xs) ∧ ForOn (Itt K a) g tb D0 σ H1
def rForR (g : TG) (tb : TS) (D0 : Ends) (σ : L2.St) (x : List V) (H1 : Hp) : Prop := ∃ j : Int, x = [.int j] ∧ -(2 ^ 62) ≤ j ∧ j < 2 ^ 62 ∧ ForOn (Itr 0 j.toNat) g tb D0 σ H1
def rForR2 (g : TG) (tb : TS) (D0 : Ends) (σ : L2.St) (x : List V) (H1 : Hp) : Prop := ∃ i j : Int, x = [.int i, .int j] ∧ (-(2 ^ 62) ≤ i ∧ i < 2 ^ 62 ∧ -(2 ^ 62) ≤ j ∧ j < 2 ^ 62) ∧ ForOn (Itr i (j - i).toNat) g tb D0 σ H1
section
variable {K : PySem.W.Frag} {S : Addr → Prop} {H H1 : Hp} {a : Addr} {xs : List V} {g : TG} {tb : TS} {tl : TE} {σ : L2.St} {D0 : Ends} {ta : TA}
theorem e_forL : tFor (iList K tl) g tb D0 σ H = tl σ H fun x H1 => rForL K g tb D0 σ x H1 := rfl
theorem e_forT : tFor (iTup K tl) g tb D0 σ H = tl σ H fun x H1 => rForT K g tb D0 σ x H1 := rfl
theorem e_forR : tFor (iRng1 ta) g tb D0 σ H = ta σ H fun x H1 => rForR g tb D0 σ x H1 := rfl
theorem e_forR2 : tFor (iRng2 ta) g tb D0 σ H = ta σ H fun x H1 => rForR2 g tb D0 σ x H1 := rfl
theorem forL (h : H1 a = some (.lst xs)) (hS : ¬ S a) (I : Nat → L2.St → Hp → Prop) (i0 : I 0 σ H1) (stay : ∀ i σ' H', I i σ' H' → Ext S H1 H')
    (step : ∀ i x σ' H', xs[i]? = some x → I i σ' H' → g x σ' H' fun σ2 H3 => tb { D0 with nx := I (i + 1), ct := I (i + 1), bk := D0.nx } σ2 H3) (fin : ∀ σ' H', I xs.length σ' H' → D0.nx σ' H') : rForL K g tb D0 σ (.ref a) H1 :=
  ⟨a, rfl, ⟨xs, SqL.of h⟩, for_core (src_list h hS) I i0 stay (fun i σ' H' _ hI x H2 y => by obtain ⟨rfl, y⟩ := y; exact step i x σ' _ y hI) fin⟩
end
end U
namespace U
open PySem PySem.Spec PyProof.Rows L2
/-- the text of one sign; of codes -/
def one (c : Nat) : Str := ⟨#[c]⟩
def ofL (l : List Nat) : Str := ⟨l.toArray⟩
def cd (z : Str) : List Nat := z.cps.toList
theorem cd_ofL (l : List Nat) : cd (ofL l) = l := rfl
theorem cd_len (z : Str) : (cd z).length = z.length := by
  unfold cd
  rw [Array.length_toList]
  rfl
theorem cd_size (z : Str) : z.cps.size = (cd z).length := by
  unfold cd
  rw [Array.length_toList]
def sgn (c : Nat) : D := .str (one c)
def SIGNS : Str := PySem.Str.ofString ".0123456789abcdefghijklmnopqrstuvwxyz~"
def signs : List Nat := cd SIGNS
def isSign (c : Nat) : Bool := decide (c ∈ signs)
/-- a text of at most n signs -/
def okText (n : Nat) (z : Str) : Bool := decide (z.length ≤ n) && (cd z).all isSign
theorem okText_iff {n : Nat} {z : Str} : okText n z = true ↔ z.length ≤ n ∧ ∀ c ∈ cd z, c ∈ signs := by
  unfold okText isSign
  rw [Bool.and_eq_true, List.all_eq_true]
  simp
structure Sh where
  limit : Nat
  head : Nat
  tail : Nat
  mark : Str
def Sh.ok (s : Sh) : Prop := s.limit ≤ 40 ∧ s.head ≤ 40 ∧ s.tail ≤ 40 ∧ okText 3 s.mark = true
/-- a list at an address, a tuple -/
theorem dt_lst {S : Addr → Prop} {H : Hp} {v : V} {ds : List D} (h : Dt S H v (.lst ds)) : ∃ a xs, v = .ref a ∧ ¬ S a ∧ H a = some (.lst xs) ∧ DtA S H xs ds := by
  cases h with
  | lst n ha hs => exact ⟨_, _, rfl, n, ha, hs⟩
theorem join_one1 (l : List Nat) : Txt.join (PySem.Str.ofString "") (l.map one) = ofL l := by
  have e := SX.join_S [] (l.map fun c => [c])
  rw [List.map_map] at e
  have e1 : SX.S [] = PySem.Str.ofString "" := rfl
  have e2 : (SX.S ∘ fun c => [c]) = one := rfl
  rw [e1, e2] at e
  rw [e]
  have h : ∀ l : List Nat, TL.joinL [] (l.map fun c => [c]) = l := by
    intro l
    induction l with
    | nil => rfl
    | cons c r ih =>
      cases r with
      | nil => rfl
      | cons d t =>
        show [c] ++ [] ++ TL.joinL [] ((d :: t).map fun c => [c]) = c :: d :: t
        rw [ih]
        rfl
  rw [h]
  rfl
end U
namespace U
open PySem PySem.Spec PyProof.Rows L2 StX
section
variable {X : Cx} {K : PySem.W.Frag} {e o a b : Expr} {te to : TE} {tg : Expr} {ta : TA}
theorem op_eqK (h : X.K = K) (hu : X.A.units + 64 < cLine) : OpR X (compareOp .Eq) (rEqU K) := by subst h; exact op_eqU hu
theorem op_inK (h : X.K = K) : OpR X (compareOp .In) (rInU K) := by subst h; exact op_inU
theorem op_ninK (h : X.K = K) : OpR X (compareOp .NotIn) (rNinU K) := by subst h; exact op_ninU
theorem ix_K (h : X.K = K) : IxR X (rIxU K) := by subst h; exact ix_U
theorem sl_K (h : X.K = K) : SlR X (rSlU K) := by subst h; exact sl_U
theorem call_lenK (h : X.K = K) : CallR X (.builtin "len") (rLenU K) := by subst h; exact call_lenU
theorem call_isiK (h : X.K = K) : CallR X (.builtin "isinstance") (rIsi K) := by subst h; exact call_isi
theorem cr_allK (h : X.K = K) (hc : X.calm = true) : CallR X (.builtin "all") (rAll K) := by subst h; exact cr_all hc
theorem pe_fldK (h : X.K = K) {f : Str} {pos : Pos} (he : PE X e te) (hb : attributeBase e f X.env (eval e X.env) = eval e X.env := by rfl) : PE X (.Attribute e f pos) (tFld K te f) := by subst h; exact pe_fld he hb
theorem pi_listK (h : X.K = K) (he : PE X e te) : PI X tg e (iList K te) := by subst h; exact pi_list he
theorem pi_tupK (h : X.K = K) (he : PE X e te) : PI X tg e (iTup K te) := by subst h; exact pi_tup he
theorem pa_starK (h : X.K = K) {es : List Expr} {t : TA} {p : Pos} (he : PE X e te) (hr : PA X es t) (hs : starEach (.Starred e p :: es) X.env = (true, eval e X.env) :: starEach es X.env := by rfl) : PA X (.Starred e p :: es) (tStar K te t) := by subst h; exact pa_star he hr hs
/-- '..'.join(xs) -/
def rJoin (K : PySem.W.Frag) : V → List V → Hp → VK → Prop := fun x xs H Q => ∃ a p, ∃ ys : List Str, x = .str a ∧ xs = [.ref p] ∧ (SqL K H p (ys.map V.str) ∨ SqT K H p (ys.map V.str)) ∧ (ys.map (·.length)).sum + ys.length * a.length ≤ 16777216 ∧ Q (.str (Txt.join a ys)) H
theorem pe_joinK (h : X.K = K) {apos pos : Pos} (ho : PE X o to) (he : PE X e te) (hs : starEach [e] X.env = [(false, eval e X.env)] := by rfl) (hbase : attributeBase o "join" X.env (eval o X.env) = eval o X.env := by rfl) (hline : (apos.endLine == pos.line) = true := by rfl) :
    PE X (.Call (.Attribute o "join" apos) [e] [] pos) (tM1 (rJoin K) to te) := by subst h; exact pe_join ho he hs hbase hline
/-- tuple(xs) -/
theorem pe_tupOfK (h : X.K = K) {p pos : Pos} (hg : Gl X "tuple") (hm : X.mg "tuple" = none) (he : PE X e te) (na : starEach [e] X.env = (false, eval e X.env) :: starEach [] X.env := by rfl) : PE X (.Call (.Name "tuple" p) [e] [] pos) (tThen te (kTup K)) := by
  subst h
  exact pe_tupleOf hg hm he na
theorem e_then {σ : L2.St} {H : Hp} {Q : VK} {k : V → Hp → VK → Prop} : tThen te k σ H Q = te σ H fun x H1 => k x H1 Q := rfl
theorem e_star {σ : L2.St} {H : Hp} {Q : List V → Hp → Prop} {t : TA} : tStar K te t σ H Q = te σ H fun x H1 => ∃ p xs, x = V.ref p ∧ (SqT K H1 p xs ∨ SqL K H1 p xs) ∧ t σ H1 fun ys H2 => Q (xs ++ ys) H2 := rfl
end
end U
namespace U
open PySem PySem.Spec PyProof.Rows L2
theorem e_yes {σ : L2.St} {H : Hp} {R : Bool → Hp → Prop} : tYes σ H R = R true H := rfl
end U
namespace U
theorem take_snoc {α : Type} {l : List α} {i : Nat} {c : α} (h : l[i]? = some c) : l.take (i + 1) = l.take i ++ [c] := by
  rw [List.take_add_one, h]
  rfl
theorem cd_get {z : PySem.Str} {i c : Nat} (h : z.cps[i]? = some c) : (cd z)[i]? = some c := by
  unfold cd
  rw [Array.getElem?_toList]
  exact h
end U
namespace U
open PySem PySem.Spec PyProof.Rows L2
theorem e_sfld {σ : L2.St} {H : Hp} {D0 : Ends} {K : PySem.W.Frag} {ta tv : TE} {f : Str} : sFld K ta tv f D0 σ H = tv σ H fun y H1 => ta σ H1 fun x H2 => ∃ a C dx fs, x = .ref a ∧ H2 a = some (.ins C dx fs) ∧ Cls K C ∧ NoAttr K C f ∧ fs.length < 1000 ∧ D0.nx σ (upd H2 a (.ins C dx (putF f y fs))) := rfl
end U
namespace U
open PySem PySem.Spec PyProof.Rows L2
section
variable {σ : L2.St} {H : Hp} {R : L2.St → Hp → Prop} {K : PySem.W.Frag}
theorem e_gcons {t : TG} {u : TGs} {x : V} {r : List V} : gCons t u (x :: r) σ H R = t x σ H fun σ1 H1 => u r σ1 H1 R := by
  apply propext
  constructor
  · rintro ⟨v, l, h, q⟩
    cases h
    exact q
  · exact fun q => ⟨x, r, rfl, q⟩
theorem e_gnil : gNil [] σ H R = R σ H := by
  apply propext
  exact ⟨fun q => q.2, fun q => ⟨rfl, q⟩⟩
theorem e_gtup {n : Nat} {t : TGs} {v : V} : gTup K n t v σ H R = ∃ a xs, v = .ref a ∧ SqT K H a xs ∧ xs.length = n ∧ t xs σ H R := rfl
theorem e_gsub {to ti : TE} {t : TSet} {v : V} : gSub to ti t v σ H R = to σ H fun o H1 => ti σ H1 fun i H2 => t o i v H2 fun H3 => R σ H3 := rfl
theorem pg_tupK {X : Cx} (h : X.K = K) {es : List Expr} {k : Nat} {pos : Pos} {t : TGs} {n : Nat} (hc : X.calm = true) (ht : PGs X es t) (hn : (assignEach es X.env).length = n := by rfl) (hst : (assignEach es X.env).findIdx? (·.1) = none := by rfl) : PG X (.Tuple es k pos) (gTup K n t) := by
  subst h
  exact pg_tup hc ht hn hst
end
end U
namespace U
open PySem PySem.Spec PyProof.Rows L2
section
variable {σ : L2.St} {H : Hp} {Q : VK} {K : PySem.W.Frag}
theorem e_make {C : Addr} {sp : Sp} {dvs : List V} {E : XK} {t : TA} : tMake C sp dvs E t σ H Q = t σ H fun vs H1 => ∀ x dx, H1 x = none → H1 dx = none → dx ≠ x → sp (.ref x :: (vs ++ dvs)) (upd (upd H1 dx (.own x)) x (.ins C dx [])) (fun v H2 => v = .non ∧ Q (.ref x) H2) E := rfl
theorem e_makeK {C : Addr} {n m : Nat} {sp : Sp} {gV : List V → List V → List V} {E : XK} {t tk : TA} : tMakeK C n m sp gV E t tk σ H Q = t σ H fun vs H1 => tk σ H1 fun zs H2 => vs.length = n ∧ zs.length = m ∧ ∀ x dx, H2 x = none → H2 dx = none → dx ≠ x →
  sp (gV (.ref x :: vs) zs) (upd (upd H2 dx (.own x)) x (.ins C dx [])) (fun v H3 => v = .non ∧ Q (.ref x) H3) E := rfl
theorem e_callN {n m : Nat} {sp : Sp} {gV : List V → List V → List V} {E : XK} {t tk : TA} : tCallN n m sp gV E t tk σ H Q = t σ H fun vs H1 => tk σ H1 fun zs H2 => vs.length = n ∧ zs.length = m ∧ sp (gV vs zs) H2 Q E := rfl
theorem e_meth {C : Addr} {m : Str} {sp : Sp} {dvs : List V} {E : XK} {ta : TE} {t : TA} : tMeth C m sp dvs E ta t σ H Q = ta σ H fun x H1 => ∃ a dx fs, x = .ref a ∧ H1 a = some (.ins C dx fs) ∧ fs.lookup m = none ∧ t σ H1 fun vs H2 => sp (x :: (vs ++ dvs)) H2 Q E := rfl
theorem e_kTup {p : Addr} : kTup K (.ref p) H Q = ((∃ xs, SqL K H p xs ∧ ∀ q, H q = none → Q (.ref q) (upd H q (.tup xs))) ∨ (∃ xs, SqT K H p xs ∧ Q (.ref p) H)) := by
  apply propext
  unfold kTup
  constructor
  · rintro (⟨q, xs, h, r⟩ | ⟨q, xs, h, r⟩)
    · cases h
      exact .inl ⟨xs, r⟩
    · cases h
      exact .inr ⟨xs, r⟩
  · rintro (⟨xs, r⟩ | ⟨xs, r⟩)
    · exact .inl ⟨p, xs, rfl, r⟩
    · exact .inr ⟨p, xs, rfl, r⟩
end
end U
namespace U
open PySem PySem.Spec PyProof.Rows L2
/-- the tuple at a as it stands at each turn, place and item in a new pair -/
def IteT (K : PySem.W.Frag) (a : Addr) : It where
  go i H := ∃ (xs : List V) (x : V), SqT K H a xs ∧ xs[i]? = some x
  yld i H v H' := ∃ T x, v = .ref T ∧ H T = none ∧ H' = upd H T (.tup [.int (i : Nat), x]) ∧ ∀ xs, SqT K H a xs → xs[i]? = some x
  stop i H := ∃ xs : List V, SqT K H a xs ∧ xs.length = i
def iEnumT (K : PySem.W.Frag) (ta : TA) : TI := fun σ H R => ta σ H fun vs H1 => ∃ a xs, vs = [.ref a] ∧ SqT K H1 a xs ∧ R (IteT K a) H1
def rForE (K : PySem.W.Frag) (g : TG) (tb : TS) (D0 : Ends) (σ : L2.St) (vs : List V) (H1 : Hp) : Prop := ∃ a xs, vs = [.ref a] ∧ SqT K H1 a xs ∧ ForOn (IteT K a) g tb D0 σ H1
section
variable {K : PySem.W.Frag} {S : Addr → Prop} {H H1 : Hp} {a : Addr} {xs : List V} {g : TG} {tb : TS} {σ : L2.St} {D0 : Ends} {ta : TA}
theorem e_forE : tFor (iEnumT K ta) g tb D0 σ H = ta σ H fun x H1 => rForE K g tb D0 σ x H1 := rfl
end
end U
namespace U
open PySem PySem.Spec PyProof.Rows L2
theorem cutV_to (xs : List V) (n : Nat) : cutV xs none (some (n : Int)) = xs.take n := by
  unfold cutV
  rw [HT.sIx_none, HT.sIx_nat, List.drop_zero, Nat.sub_zero]
  by_cases h : n ≤ xs.length
  · rw [Nat.min_eq_left h]
  · rw [Nat.min_eq_right (by omega), List.take_of_length_le (by omega), List.take_of_length_le (by omega)]
theorem cutS_to (z : Str) (n : Nat) : cutS z none (some (n : Int)) = ofL ((cd z).take n) := by
  have hl := cd_len z
  unfold cutS
  rw [HT.sIx_none, HT.sIx_nat, List.drop_zero, Nat.sub_zero]
  show ofL ((cd z).take _) = _
  by_cases h : n ≤ z.length
  · rw [Nat.min_eq_left h]
  · rw [Nat.min_eq_right (by omega), List.take_of_length_le (by omega), List.take_of_length_le (by omega)]
end U
namespace U
theorem sum_ones {α : Type} (l : List α) : (l.map fun _ => 1).sum = l.length := by
  induction l with
  | nil => rfl
  | cons a r ih =>
    rw [List.map_cons, List.sum_cons, ih, List.length_cons]
    omega
end U
namespace U
open PySem PySem.Spec PyProof.Rows L2
theorem sql_sm {K : PySem.W.Frag} {H H' : Hp} {a : Addr} {xs : List V} (h : SqL K H a xs) (e : Same H H') : SqL K H' a xs :=
  h.elim (fun h => .inl (h.elim (fun h => .inl (e _ _ h)) fun ⟨o, h⟩ => .inr ⟨o, e _ _ h⟩)) fun h => .inr h
theorem at_int {xs : List V} {i : Int} {v : V} (h0 : 0 ≤ i) (g : xs[i.toNat]? = some v) : atI xs i = some v := by
  obtain ⟨n, rfl⟩ := Int.eq_ofNat_of_zero_le h0
  exact atI_nat g
theorem ixL {K : PySem.W.Frag} {H : Hp} {a : Addr} {xs : List V} {i : Int} {v : V} {Q : VK} (h : H a = some (.lst xs)) (g : xs[i.toNat]? = some v) (q : Q v H) (h0 : 0 ≤ i := by decide) : rIxU K (.ref a) (.int i) H Q := ⟨xs, v, .inl (SqL.of h), at_int h0 g, q⟩
theorem adI {H : Hp} {i j : Int} {Q : VK} (q : Q (.int (i + j)) H) : rAddU (.int i) (.int j) H Q := q
theorem strOk_of {n : Nat} {z : Str} (h : okText n z = true) : PySem.PyData.strOk z = true := by
  have h2 := (okText_iff.mp h).2
  have h3 : ∀ c ∈ U.signs, c < 0x110000 := by decide +kernel
  unfold PySem.PyData.strOk
  rw [Array.all_eq_true_iff_forall_mem]
  intro c hc
  exact decide_eq_true (h3 c (h2 c (by unfold cd; exact Array.mem_toList_iff.mpr hc)))
end U
namespace U
open PySem PySem.Spec PyProof.Rows L2
theorem e_lstRg {ta : TE} {σ : L2.St} {H : Hp} {Q : VK} : tLstRg (tRg1 ta) σ H Q = ta σ H fun x H1 => ∃ n, x = .int n ∧ RgOk 0 n ∧ ∀ q, H1 q = none → Q (.ref q) (upd H1 q (.lst (rgV 0 n))) := rfl
def lenP (s : Sh) (n : Nat) : Nat := if n ≤ s.limit then n else min s.head n + s.mark.length + min s.tail n
def lenR (row : List Sh) (n : Nat) : Nat := row.foldl (fun m s => lenP s m) n
/-- the places 0 .. n - 1 -/
def pl (i : Nat) : D := .int (i : Nat)
end U
namespace U
open PySem PySem.Spec PyProof.Rows L2
structure PyOk (W k : Nat) (p : PyData) : Prop where
  lay : p.canLay0 = true
  itx : PyData.intsShort 13 p = true
  sh : PyData.showable p = true
  nd : PyData.hasDict p = false
  dep : PyData.depth p ≤ k
  wt : PyData.weight p ≤ W
structure PysOk (W k : Nat) (ps : List PyData) : Prop where
  lay : PyData.canLayAll0 ps = true
  itx : PyData.intsShortAll 13 ps = true
  sh : PyData.showableAll ps = true
  nd : PyData.hasDictAll ps = false
  dep : PyData.depthAll ps ≤ k
  wt : PyData.weightAll ps ≤ W
theorem PysOk.nil (W k : Nat) : PysOk W k [] := ⟨rfl, rfl, rfl, rfl, Nat.zero_le _, Nat.zero_le _⟩
theorem PysOk.cons {W W' k : Nat} {p : PyData} {ps : List PyData} (a : PyOk W k p) (b : PysOk W' k ps) : PysOk (W + 1 + W') k (p :: ps) := by
  obtain ⟨a1, a2, a3, a4, a5, a6⟩ := a
  obtain ⟨b1, b2, b3, b4, b5, b6⟩ := b
  refine ⟨?_, ?_, ?_, ?_, ?_, ?_⟩
  · rw [PyData.canLayAll0, a1, b1]; rfl
  · rw [PyData.intsShortAll, a2, b2]; rfl
  · rw [PyData.showableAll, a3, b3]; rfl
  · rw [PyData.hasDictAll, a4, b4]; rfl
  · rw [PyData.depthAll]; omega
  · rw [PyData.weightAll]; omega
theorem PyOk.mono {W W' k k' : Nat} {p : PyData} (a : PyOk W k p) (h : W ≤ W') (h2 : k ≤ k') : PyOk W' k' p := ⟨a.lay, a.itx, a.sh, a.nd, Nat.le_trans a.dep h2, Nat.le_trans a.wt h⟩
theorem PysOk.mono {W W' k k' : Nat} {p : List PyData} (a : PysOk W k p) (h : W ≤ W') (h2 : k ≤ k') : PysOk W' k' p := ⟨a.lay, a.itx, a.sh, a.nd, Nat.le_trans a.dep h2, Nat.le_trans a.wt h⟩
theorem PysOk.list {W k : Nat} {ps : List PyData} (a : PysOk W k ps) : PyOk W (k + 1) (.list ps) :=
  ⟨by rw [PyData.canLay0]; exact a.lay, by rw [PyData.intsShort]; exact a.itx, by rw [PyData.showable]; exact a.sh, by rw [PyData.hasDict]; exact a.nd, by rw [PyData.depth]; have := a.dep; omega, by rw [PyData.weight]; exact a.wt⟩
theorem PysOk.tuple {W k : Nat} {ps : List PyData} (a : PysOk W k ps) : PyOk W (k + 1) (.tuple ps) :=
  ⟨by rw [PyData.canLay0]; exact a.lay, by rw [PyData.intsShort]; exact a.itx, by rw [PyData.showable]; exact a.sh, by rw [PyData.hasDict]; exact a.nd, by rw [PyData.depth]; have := a.dep; omega, by rw [PyData.weight]; exact a.wt⟩
theorem PyOk.int {i : Int} (h : i.natAbs < 10 ^ 12) : PyOk 40 0 (.int i) := by
  refine ⟨rfl, ?_, ?_, rfl, by rw [PyData.depth]; exact Nat.le_refl _, ?_⟩
  · rw [PyData.intsShort]
    exact decide_eq_true (PyData.shown_int_le h)
  · rw [PyData.showable]
    refine decide_eq_true ?_
    have : i.natAbs.log2 ≤ 40 := by
      by_cases z : i.natAbs = 0
      · rw [z]; decide
      · exact Nat.le_of_lt_succ ((Nat.log2_lt z).mpr (Nat.lt_of_lt_of_le h (by decide)))
    omega
  · rw [PyData.weight]
    split
    · omega
    · have : i.natAbs.log2 < 40 := by
        by_cases z : i.natAbs = 0
        · rw [z]; decide
        · exact (Nat.log2_lt z).mpr (Nat.lt_of_lt_of_le h (by decide))
      omega
theorem PyOk.bl (b : Bool) : PyOk 0 0 (.bool b) := ⟨rfl, rfl, rfl, rfl, by rw [PyData.depth]; exact Nat.le_refl _, by rw [PyData.weight]; exact Nat.le_refl _⟩
theorem PyOk.non : PyOk 0 0 .none := ⟨rfl, rfl, rfl, rfl, by rw [PyData.depth]; exact Nat.le_refl _, by rw [PyData.weight]; exact Nat.le_refl _⟩
theorem PyOk.str {z : Str} {n : Nat} (h : PyData.strOk z = true) (hn : z.length ≤ n) : PyOk n 0 (.str z) :=
  ⟨by rw [PyData.canLay0]; exact h, rfl, rfl, rfl, by rw [PyData.depth]; exact Nat.le_refl _, by rw [PyData.weight]; exact hn⟩
theorem PyOk.text {z : Str} {n : Nat} (h : okText n z = true) : PyOk n 0 (.str z) := .str (strOk_of h) (okText_iff.mp h).1
theorem PyOk.shaped {W k : Nat} {p : PyData} (h : PyOk W k p) (hk : k ≤ 64) : SeqAt.shaped p = true := by
  unfold SeqAt.shaped
  rw [Bool.and_eq_true]
  exact ⟨h.lay, decide_eq_true (Nat.le_trans h.dep hk)⟩
/-- a datum that can be compared and shown -/
def okP (W k : Nat) (d : D) : Prop := ∃ p, D.py d = some p ∧ PyOk W k p
def okPs (W k : Nat) (ds : List D) : Prop := ∃ ps, D.pys ds = some ps ∧ PysOk W k ps
theorem okPs.nil (W k : Nat) : okPs W k [] := ⟨[], by rw [D.pys], .nil _ _⟩
theorem okPs.cons {W W' k : Nat} {d : D} {ds : List D} : okP W k d → okPs W' k ds → okPs (W + 1 + W') k (d :: ds) := fun ⟨p, e, a⟩ ⟨ps, e2, b⟩ => ⟨p :: ps, by rw [D.pys, e, e2], .cons a b⟩
theorem okPs.all {W k : Nat} : ∀ {ds : List D}, (∀ d ∈ ds, okP W k d) → okPs (ds.length * (W + 1)) k ds
  | [], _ => okPs.nil _ _
  | d :: ds, h => by
    obtain ⟨ps, e, a⟩ := okPs.cons (h d List.mem_cons_self) (okPs.all fun x hx => h x (List.mem_cons_of_mem _ hx))
    refine ⟨ps, e, a.mono ?_ (Nat.le_refl _)⟩
    rw [List.length_cons, Nat.succ_mul]
    omega
theorem okPs.list {W k : Nat} {ds : List D} : okPs W k ds → okP W (k + 1) (.lst ds) := fun ⟨ps, e, a⟩ => ⟨.list ps, by rw [D.py, e]; rfl, a.list⟩
theorem okPs.tuple {W k : Nat} {ds : List D} : okPs W k ds → okP W (k + 1) (.tup ds) := fun ⟨ps, e, a⟩ => ⟨.tuple ps, by rw [D.py, e]; rfl, a.tuple⟩
theorem okP.mono {W W' k k' : Nat} {d : D} : okP W k d → W ≤ W' → k ≤ k' → okP W' k' d := fun ⟨p, e, a⟩ h h2 => ⟨p, e, a.mono h h2⟩
theorem okP.int {i : Int} (h : i.natAbs < 10 ^ 12) : okP 40 0 (.int i) := ⟨_, by rw [D.py], .int h⟩
theorem okP.text {z : Str} {n : Nat} (h : okText n z = true) : okP n 0 (.str z) := ⟨_, by rw [D.py], .text h⟩
theorem okP.pl {i : Nat} (h : i < 10 ^ 12) : okP 40 0 (U.pl i) := okP.int (by omega)
end U
namespace U
open PySem PySem.Spec PyProof.Rows L2
section
variable {X : Cx}
def rMulS : R2 := fun x y H Q => ∃ z n, x = .str z ∧ y = .int n ∧ z.length ≤ 2000 ∧ 0 ≤ n ∧ n ≤ 8000 ∧ Q (.str (Txt.mul z n)) H
theorem op_mulS : OpR X (binaryOp .Mult) rMulS := by
  intro pins s σ H x y v u Q I rx ry h
  obtain ⟨z, n, rfl, rfl, hz, h0, h1, q⟩ := h
  obtain ⟨t, rfl⟩ := rx
  obtain ⟨t', rfl⟩ := ry
  exact PySem.SB.mul (mulOk_of 2000 8000 hz (by omega) (by omega) (by decide) (by decide)) fun t2 k => ⟨.str _, H, I.tok _, ⟨_, rfl⟩, q⟩
end
def tkS (n : Nat) (z : Str) : Str := ofL ((cd z).take n)
theorem tkS_len (n : Nat) (z : Str) : (tkS n z).length = min n z.length := by
  unfold tkS
  rw [← cd_len, cd_ofL, List.length_take, cd_len]
theorem tkS_ok {n m : Nat} {z : Str} (h : okText m z = true) : okText (min n m) (tkS n z) = true := by
  obtain ⟨h1, h2⟩ := okText_iff.mp h
  refine okText_iff.mpr ⟨by rw [tkS_len]; omega, fun c hc => h2 c ?_⟩
  unfold tkS at hc
  rw [cd_ofL] at hc
  exact List.mem_of_mem_take hc
theorem ok_mono {n m : Nat} {z : Str} (h : okText n z = true) (hm : n ≤ m) : okText m z = true := okText_iff.mpr ⟨Nat.le_trans (okText_iff.mp h).1 hm, (okText_iff.mp h).2⟩
theorem cd_append (a b : Str) : cd (a ++ b) = cd a ++ cd b := by
  show (a.cps ++ b.cps).toList = _
  rw [Array.toList_append]
  rfl
theorem len_append (a b : Str) : (a ++ b).length = a.length + b.length := by
  rw [← cd_len, cd_append, List.length_append, cd_len, cd_len]
theorem ok_append {n m : Nat} {a b : Str} (h : okText n a = true) (k : okText m b = true) : okText (n + m) (a ++ b) = true := by
  obtain ⟨h1, h2⟩ := okText_iff.mp h
  obtain ⟨k1, k2⟩ := okText_iff.mp k
  refine okText_iff.mpr ⟨by rw [len_append]; omega, fun c hc => ?_⟩
  rw [cd_append] at hc
  rcases List.mem_append.mp hc with z | z
  · exact h2 c z
  · exact k2 c z
theorem empty_append (a : Str) : Str.empty ++ a = a := by
  show (⟨#[] ++ a.cps⟩ : Str) = a
  rw [Array.empty_append]
def til (n : Nat) : Str := Str.ofString "~" ++ Str.ofString (toString (n : Int))
inductive Ru where
  | count | free | tight
def Ru.str : Ru → Str
  | .count => "count"
  | .free => "free"
  | .tight => "tight"
/-- the least number that is not taken -/
def nextN (tk : List Str) (f : Nat → Str) : Nat → Nat → Nat
  | 0, n => n
  | k + 1, n => if f n ∈ tk then nextN tk f k (n + 1) else n
theorem nodup_le {α : Type} [DecidableEq α] : ∀ {xs ys : List α}, xs.Nodup → (∀ x ∈ xs, x ∈ ys) → xs.length ≤ ys.length
  | [], _, _, _ => Nat.zero_le _
  | x :: xs, ys, h, k => by
    have hx : x ∈ ys := k x List.mem_cons_self
    have h2 := List.nodup_cons.mp h
    have := nodup_le (xs := xs) (ys := ys.erase x) h2.2 fun z hz => (List.mem_erase_of_ne (show z ≠ x by intro e; subst e; exact h2.1 hz)).mpr (k z (List.mem_cons_of_mem _ hz))
    rw [List.length_erase_of_mem hx] at this
    have : 0 < ys.length := List.length_pos_of_mem hx
    rw [List.length_cons]
    omega
theorem pig {tk : List Str} {f : Nat → Str} (hf : ∀ i j, i ≤ tk.length + 2 → j ≤ tk.length + 2 → f i = f j → i = j) (h : ∀ j, 2 ≤ j → j ≤ tk.length + 2 → f j ∈ tk) : False := by
  have nd : ((List.range (tk.length + 1)).map fun i => f (i + 2)).Nodup := by
    unfold List.Nodup
    rw [List.pairwise_map]
    refine List.Pairwise.imp_of_mem ?_ (List.nodup_range (n := tk.length + 1))
    intro a b ha hb hab e
    have ha := List.mem_range.mp ha
    have hb := List.mem_range.mp hb
    have := hf _ _ (by omega) (by omega) e
    omega
  have := nodup_le nd fun x hx => by
    obtain ⟨i, hi, rfl⟩ := List.mem_map.mp hx
    have hi := List.mem_range.mp hi
    exact h _ (by omega) (by omega)
  rw [List.length_map, List.length_range] at this
  omega
/-- nextN is the number at which a search stops -/
theorem nextN_eq {tk : List Str} {f : Nat → Str} {m : Nat} (hm : f m ∉ tk) : ∀ (k n : Nat), n ≤ m → m ≤ n + k → (∀ j, n ≤ j → j < m → f j ∈ tk) → nextN tk f k n = m
  | 0, n, h1, h2, _ => by unfold nextN; omega
  | k + 1, n, h1, h2, h => by
    unfold nextN
    by_cases c : n = m
    · subst c
      rw [if_neg hm]
    · rw [if_pos (h n (Nat.le_refl _) (by omega))]
      exact nextN_eq hm k (n + 1) (by omega) (by omega) fun j a b => h j (by omega) b
theorem nextN_le (tk : List Str) (f : Nat → Str) : ∀ k n, nextN tk f k n ≤ n + k
  | 0, n => by unfold nextN; omega
  | k + 1, n => by
    unfold nextN
    split
    · have := nextN_le tk f k (n + 1); omega
    · omega
def pD (p : Str × Str) : D := .tup [.str p.1, .str p.2]
def namerD (C : Addr) (r : Ru) (w : Nat) : D := .ins C ["rule", "width"] [.str r.str, .int w]
end U
namespace U
open PySem PySem.Spec PyProof.Rows L2
section
variable {K : PySem.W.Frag} {H : Hp} {Q : VK}
theorem adS' {a b : Str} {n m : Nat} (h1 : okText n a = true) (h2 : okText m b = true) (hn : n + m ≤ 100000) (q : okText (n + m) (a ++ b) = true → Q (.str (a ++ b)) H) : rAddU (.str a) (.str b) H Q :=
  ⟨by have := (okText_iff.mp h1).1; have := (okText_iff.mp h2).1; rw [sizeLine_eq]; omega, q (ok_append h1 h2)⟩
theorem ixS {z : Str} {i : Int} {c : Nat} (hz : z.length ≤ 1000000) (g : (cd z)[i.toNat]? = some c) (h0 : 0 ≤ i) (q : Q (.str (one c)) H) : rIxU K (.str z) (.int i) H Q := by
  obtain ⟨n, rfl⟩ := Int.eq_ofNat_of_zero_le h0
  rw [Int.toNat_natCast] at g
  refine ⟨c, ?_, atI_nat (show z.cps.toList[n]? = _ from g), q⟩
  rw [sizeLine_eq]
  omega
theorem eqI {i j : Int} (q : Q (.bl (decide (i = j))) H) : rEqU K (.int i) (.int j) H Q := ⟨rfl, by rw [show decide (V.int i = V.int j) = decide (i = j) by simp]; exact q⟩
theorem joinL {p : Addr} {l : List Nat} (hp : H p = some (.lst (l.map fun c => V.str (one c)))) (hl : l.length ≤ 4000000) (q : Q (.str (ofL l)) H) : rJoin K (.str (Str.ofString "")) [.ref p] H Q := by
  refine ⟨_, p, l.map one, rfl, rfl, .inl (SqL.of (by rw [hp, List.map_map]; rfl)), ?_, ?_⟩
  · rw [List.map_map, List.length_map]
    have e4 : l.map ((fun x => x.length) ∘ one) = l.map fun _ => 1 := rfl
    rw [e4, sum_ones]
    show _ + _ * 0 ≤ _
    omega
  · rw [U.join_one1]
    exact q
theorem mul_ok : ∀ {n : Nat} {z : Str}, okText n z = true → ∀ c ∈ cd (Txt.mul z 200), c ∈ signs := by
  intro n z h c hc
  have h2 := (okText_iff.mp h).2
  have key : ∀ (k : Nat) (acc : Array Nat), (∀ c ∈ acc.toList, c ∈ signs) → ∀ c ∈ ((List.replicate k z.cps).foldl (· ++ ·) acc).toList, c ∈ signs := by
    intro k
    induction k with
    | zero => intro acc ha; exact ha
    | succ k ih =>
      intro acc ha
      rw [List.replicate_succ, List.foldl_cons]
      refine ih _ fun c hc => ?_
      rw [Array.toList_append] at hc
      rcases List.mem_append.mp hc with q | q
      · exact ha c q
      · exact h2 c q
  unfold Txt.mul at hc
  rw [if_neg (by decide)] at hc
  split at hc
  · exact h2 c hc
  · exact key _ #[] (fun c h => by cases h) c hc
theorem cut_ok {m : Nat} {z : Str} (h : ∀ c ∈ cd z, c ∈ signs) : okText m (ofL ((cd z).take m)) = true := by
  refine okText_iff.mpr ⟨?_, fun c hc => h c ?_⟩
  · rw [← cd_len, cd_ofL, List.length_take]
    omega
  · rw [cd_ofL] at hc
    exact List.mem_of_mem_take hc
theorem til_sm {i : Int} {Q : Str → Prop} (h0 : 0 ≤ i) (h1 : i ≤ 9) (q : okText 1 (Str.ofString (toString i)) = true → Q (Str.ofString (toString i))) : i.natAbs.log2 < 1920 ∧ Q (Str.ofString (toString i)) := by
  obtain ⟨n, rfl⟩ := Int.eq_ofNat_of_zero_le h0
  have a : ∀ n : Nat, n < 10 → okText 1 (Str.ofString (toString (n : Int))) = true := by decide +kernel
  have b : ∀ n : Nat, n < 10 → ((n : Nat) : Int).natAbs.log2 < 1920 := by decide +kernel
  exact ⟨b n (by omega), q (a n (by omega))⟩
end
end U
namespace U
open PySem PySem.Spec PyProof.Rows L2
theorem nmF {S : Addr → Prop} {H : Hp} {C : Addr} {v : V} {r : Ru} {wd : Nat} (h : Dt S H v (namerD C r wd)) : ∃ a dx, v = .ref a ∧ ¬ S a ∧ H a = some (.ins C dx [(("rule" : Str), .str r.str), ("width", .int wd)]) := by
  unfold namerD at h
  cases h with
  | @ins a _ dx fs _ _ n ha hn hs =>
    refine ⟨a, dx, rfl, n, ?_⟩
    match fs, hn, hs with
    | [(_, _), (_, _)], hn, .cons h1 (.cons h2 .nil) =>
      cases h1
      cases h2
      simp only [List.map_cons, List.map_nil, List.cons.injEq, and_true] at hn
      obtain ⟨rfl, rfl⟩ := hn
      exact ha
theorem tkS_all {n : Nat} {z : Str} (h : z.length ≤ n) : tkS n z = z := by
  unfold tkS
  rw [List.take_of_length_le (by rw [cd_len]; exact h)]
  rfl
end U
namespace U
open PySem PySem.Spec PyProof.Rows L2 HT
end U
namespace U
open PySem PySem.Spec PyProof.Rows L2
theorem first_free {tk : List Str} {f : Nat → Str} (hf : ∀ i j, i ≤ tk.length + 2 → j ≤ tk.length + 2 → f i = f j → i = j) : ∃ m, 2 ≤ m ∧ m ≤ tk.length + 2 ∧ f m ∉ tk ∧ ∀ j, 2 ≤ j → j < m → f j ∈ tk := by
  have go : ∀ n, n ≤ tk.length + 1 → (∃ m, 2 ≤ m ∧ m ≤ tk.length + 2 ∧ f m ∉ tk ∧ ∀ j, 2 ≤ j → j < m → f j ∈ tk) ∨ ∀ j, 2 ≤ j → j ≤ n + 1 → f j ∈ tk := by
    intro n
    induction n with
    | zero => intro _; exact .inr fun j a b => by omega
    | succ n ih =>
      intro hn
      rcases ih (by omega) with h | h
      · exact .inl h
      · by_cases c : f (n + 2) ∈ tk
        · refine .inr fun j a b => ?_
          by_cases y : j = n + 2
          · rw [y]; exact c
          · exact h j a (by omega)
        · exact .inl ⟨n + 2, by omega, by omega, c, fun j a b => h j a (by omega)⟩
  rcases go (tk.length + 1) (Nat.le_refl _) with h | h
  · exact h
  · exact (pig hf h).elim
end U
namespace V
open PySem PySem.Spec PyProof.Rows L2 U StX
/-- what may change -/
inductive MO where
  | lst (ds : List D)
  | dic (kvs : List (Key × D))
  | dct (kvs : List (List Key × D))
  | ins (C : Addr) (fs : List (Str × D))
  | tab (q : Str)
  | sys
  | xob (C : Addr) (fs : List (Str × D))
abbrev Mem := Addr → Option MO
def mset (M : Mem) (a : Addr) (o : MO) : Mem := fun b => if b = a then some o else M b
def mdel (M : Mem) (a : Addr) : Mem := fun b => if b = a then none else M b
theorem mset_same {M : Mem} {a : Addr} {o : MO} : mset M a o a = some o := if_pos rfl
theorem mset_ne {M : Mem} {a b : Addr} {o : MO} (h : b ≠ a) : mset M a o b = M b := if_neg h
theorem mset_set {M : Mem} {a : Addr} {o u : MO} : mset (mset M a o) a u = mset M a u := by
  funext b
  unfold mset
  split <;> rfl
theorem mdel_set {M : Mem} {a : Addr} {o : MO} (h : M a = none) : mdel (mset M a o) a = M := by
  funext b
  show (if b = a then none else if b = a then some o else M b) = M b
  by_cases c : b = a
  · rw [if_pos c, c, h]
  · rw [if_neg c, if_neg c]
/-- the fields of an exception whose dict is d -/
def XF (S : Addr → Prop) (H : Hp) (d : Option Addr) (fs : List (Str × D)) : Prop :=
  (d = none ∧ fs = []) ∨ ∃ dd gs, d = some dd ∧ ¬ S dd ∧ H dd = some (.xd gs) ∧ gs.map (·.1) = fs.map (·.1) ∧ DtA S H (gs.map (·.2)) (fs.map (·.2))
def Held (S : Addr → Prop) (H : Hp) (a : Addr) : MO → Prop
  | .lst ds => ∃ vs, H a = some (.lst vs) ∧ DtA S H vs ds
  | .dic kvs => ∃ ws, H a = some (.dK ws) ∧ ws.map (·.1) = kvs.map (·.1) ∧ DtA S H (ws.map (·.2)) (kvs.map (·.2))
  | .dct kvs => ∃ ws, H a = some (.dT ws) ∧ ws.map (·.1) = kvs.map (·.1) ∧ DtA S H (ws.map (·.2)) (kvs.map (·.2))
  | .ins C fs => ∃ dx gs, H a = some (.ins C dx gs) ∧ gs.map (·.1) = fs.map (·.1) ∧ DtA S H (gs.map (·.2)) (fs.map (·.2))
  | .tab q => ∃ ps : Array Value, H a = some (.tbl ps) ∧ TriplesOk ps.toList ∧ ∀ (pos : Pos) (cv : Value), codeAmong pos ps.toList = some cv → ∃ c, cv = .ref c ∧ H c = some (LamX.CodeO c q) ∧ ¬ S c
  | .sys => ∃ (o : Obj) (es : Array DictEntry) (ep : Nat), H a = some (.frz o (.ext fun _ => True)) ∧ o.data = .dict es ep
  | .xob C fs => ∃ (o : Obj) (us : Array Value), H a = some (.frz o (.ext fun _ => True)) ∧ o.cls = .ref C ∧ o.data = .fields us ∧ XF S H o.dict fs
structure Wo (S : Addr → Prop) (M : Mem) (H : Hp) : Prop where
  tr : ∀ a, S a → H a ≠ none
  mem : ∀ a mo, M a = some mo → S a ∧ Held S H a mo
structure Step (S : Addr → Prop) (M : Mem) (H : Hp) (S' : Addr → Prop) (M' : Mem) (H' : Hp) : Prop where
  keep : ∀ b o, M b = none → H b = some o → H' b = some o ∧ M' b = none ∧ (S' b ↔ S b)
/-- slots: what is known of them -/
abbrev Dl := List (Option D)
structure En (S : Addr → Prop) (H : Hp) (σ : L2.St) (δ : Dl) : Prop where
  len : σ.length = δ.length
  at_ : ∀ (i : Nat) (d : D), δ[i]? = some (some d) → ∃ v, σ[i]? = some (some v) ∧ Dt S H v d
section
variable {S S' S1 S2 : Addr → Prop} {M M' M1 M2 : Mem} {H H' H1 H2 : Hp} {σ : L2.St} {δ : Dl}
theorem Step.refl : Step S M H S M H := ⟨fun _ _ h e => ⟨e, h, Iff.rfl⟩⟩
theorem Step.trans (a : Step S M H S1 M1 H1) (b : Step S1 M1 H1 S2 M2 H2) : Step S M H S2 M2 H2 := ⟨fun c o h e => by
  obtain ⟨e1, h1, s1⟩ := a.keep c o h e
  obtain ⟨e2, h2, s2⟩ := b.keep c o h1 e1
  exact ⟨e2, h2, s2.trans s1⟩⟩
theorem Wo.mn (w : Wo S M H) {a : Addr} (h : ¬ S a) : M a = none := by
  cases e : M a with
  | none => rfl
  | some mo => exact (h (w.mem a mo e).1).elim
theorem Wo.ns (w : Wo S M H) {a : Addr} (h : H a = none) : ¬ S a := fun z => w.tr a z h
theorem Wo.fresh (w : Wo S M H) {a : Addr} (h : H a = none) : M a = none := w.mn (w.ns h)
mutual
theorem dt_step (w : Wo S M H) (t : Step S M H S' M' H') : ∀ (d : D) {v : V}, Dt S H v d → Dt S' H' v d
  | .non, _, h => by cases h; exact .non
  | .bl b, _, h => by cases h; exact .bl b
  | .int i, _, h => by cases h; exact .int i
  | .str x, _, h => by cases h; exact .str x
  | .ptr x, _, h => by cases h; exact .ptr x
  | .ty x, _, h => by cases h; exact .ty x
  | .lst ds, _, h => by
    cases h with
    | lst n ha hs =>
      obtain ⟨e1, h1, s1⟩ := t.keep _ _ (w.mn n) ha
      exact .lst (fun z => n (s1.mp z)) e1 (dtA_step w t ds hs)
  | .tup ds, _, h => by
    cases h with
    | tup n ha hs =>
      obtain ⟨e1, h1, s1⟩ := t.keep _ _ (w.mn n) ha
      exact .tup (fun z => n (s1.mp z)) e1 (dtA_step w t ds hs)
  | .ins C ns ds, _, h => by
    cases h with
    | ins n ha hn hs =>
      obtain ⟨e1, h1, s1⟩ := t.keep _ _ (w.mn n) ha
      exact .ins (fun z => n (s1.mp z)) e1 hn (dtA_step w t ds hs)
  | .opq a o, _, h => by
    cases h with
    | opq n ha =>
      obtain ⟨e1, h1, s1⟩ := t.keep _ _ (w.mn n) ha
      exact .opq (fun z => n (s1.mp z)) e1
  | .ftp ds, _, h => by
    cases h with
    | ftp n ha hd hs =>
      obtain ⟨e1, h1, s1⟩ := t.keep _ _ (w.mn n) ha
      exact .ftp (fun z => n (s1.mp z)) e1 hd (dtA_step w t ds hs)
theorem dtA_step (w : Wo S M H) (t : Step S M H S' M' H') : ∀ (ds : List D) {vs : List V}, DtA S H vs ds → DtA S' H' vs ds
  | [], _, h => by cases h; exact .nil
  | d :: ds, _, h => by
    cases h with
    | cons h1 h2 => exact .cons (dt_step w t d h1) (dtA_step w t ds h2)
end
theorem En.step (e : En S H σ δ) (w : Wo S M H) (t : Step S M H S' M' H') : En S' H' σ δ :=
  ⟨e.len, fun i d h => by
    obtain ⟨v, h1, h2⟩ := e.at_ i d h
    exact ⟨v, h1, dt_step w t d h2⟩⟩
theorem En.set (e : En S H σ δ) {i : Nat} {v : V} {d : D} (h : Dt S H v d) : En S H (σ.set i (some v)) (δ.set i (some d)) := by
  refine ⟨by rw [List.length_set, List.length_set]; exact e.len, fun j y hj => ?_⟩
  by_cases c : i = j
  · subst c
    by_cases l : i < δ.length
    · rw [List.getElem?_set_self l] at hj
      cases hj
      exact ⟨v, List.getElem?_set_self (by rw [e.len]; exact l), h⟩
    · rw [List.getElem?_eq_none (by rw [List.length_set]; omega)] at hj
      cases hj
  · rw [List.getElem?_set_ne c] at hj
    rw [List.getElem?_set_ne c]
    exact e.at_ j y hj
theorem En.unset (e : En S H σ δ) {i : Nat} {o : Option V} : En S H (σ.set i o) (δ.set i none) := by
  refine ⟨by rw [List.length_set, List.length_set]; exact e.len, fun j y hj => ?_⟩
  by_cases c : i = j
  · subst c
    by_cases l : i < δ.length
    · rw [List.getElem?_set_self l] at hj
      cases hj
    · rw [List.getElem?_eq_none (by rw [List.length_set]; omega)] at hj
      cases hj
  · rw [List.getElem?_set_ne c] at hj
    rw [List.getElem?_set_ne c]
    exact e.at_ j y hj
def wipeD (δ : Dl) : List Nat → Dl
  | [] => δ
  | v :: vs => (wipeD δ vs).set v none
theorem En.wipe (e : En S H σ δ) : ∀ vs : List Nat, En S H (L2.wipe σ vs) (wipeD δ vs)
  | [] => e
  | v :: vs => (En.wipe e vs).unset
/-- a slot may be forgotten -/
def Le (δ δ' : Dl) : Prop := δ.length = δ'.length ∧ ∀ (i : Nat) (d : D), δ'[i]? = some (some d) → δ[i]? = some (some d)
theorem En.le (e : En S H σ δ) {δ' : Dl} (l : Le δ δ') : En S H σ δ' := ⟨e.len.trans l.1, fun i d h => e.at_ i d (l.2 i d h)⟩
/-- an object that no store speaks of -/
theorem Wo.new (w : Wo S M H) {p : Addr} {o : HO} (h : H p = none) : Wo S M (upd H p o) := by
  refine ⟨fun a s => ?_, fun a mo e => ?_⟩
  · rw [upd_ne (fun z => w.tr a s (by rw [z]; exact h))]
    exact w.tr a s
  · obtain ⟨s, k⟩ := w.mem a mo e
    have na : a ≠ p := fun z => w.tr a s (by rw [z]; exact h)
    refine ⟨s, ?_⟩
    cases mo with
    | lst ds =>
      obtain ⟨vs, h1, h2⟩ := k
      exact ⟨vs, (upd_ne na).trans h1, h2.sm (Same.new h)⟩
    | dic ds =>
      obtain ⟨vs, h1, h3, h2⟩ := k
      exact ⟨vs, (upd_ne na).trans h1, h3, h2.sm (Same.new h)⟩
    | dct ds =>
      obtain ⟨vs, h1, h3, h2⟩ := k
      exact ⟨vs, (upd_ne na).trans h1, h3, h2.sm (Same.new h)⟩
    | ins C ds =>
      obtain ⟨dx, vs, h1, h3, h2⟩ := k
      exact ⟨dx, vs, (upd_ne na).trans h1, h3, h2.sm (Same.new h)⟩
    | tab q =>
      obtain ⟨ps, h1, h2, h3⟩ := k
      refine ⟨ps, (upd_ne na).trans h1, h2, fun pos cv hc => ?_⟩
      obtain ⟨c, e1, e2, e3⟩ := h3 pos cv hc
      exact ⟨c, e1, Same.new h _ _ e2, e3⟩
    | sys =>
      obtain ⟨o, es, ep, h1, h2⟩ := k
      exact ⟨o, es, ep, (upd_ne na).trans h1, h2⟩
    | xob C fs =>
      obtain ⟨o, us, h1, h2, h3, h4⟩ := k
      exact ⟨o, us, (upd_ne na).trans h1, h2, h3, h4.imp id fun ⟨dd, gs, e1, e2, e3, e4, e5⟩ => ⟨dd, gs, e1, e2, Same.new h _ _ e3, e4, e5.sm (Same.new h)⟩⟩
theorem Step.new {p : Addr} {o : HO} (h : H p = none) : Step S M H S M (upd H p o) := ⟨fun b u n e => ⟨Same.new h b u e, n, Iff.rfl⟩⟩
/-- the heap grows, the store stays -/
theorem Wo.same (w : Wo S M H) (e : Same H H') : Wo S M H' := by
  refine ⟨fun a s => ?_, fun a mo k => ?_⟩
  · cases h : H a with
    | none => exact (w.tr a s h).elim
    | some o =>
      rw [e _ _ h]
      exact fun z => nomatch z
  · obtain ⟨s, k⟩ := w.mem a mo k
    refine ⟨s, ?_⟩
    cases mo with
    | lst ds =>
      obtain ⟨vs, h1, h2⟩ := k
      exact ⟨vs, e _ _ h1, h2.sm e⟩
    | dic ds =>
      obtain ⟨vs, h1, h3, h2⟩ := k
      exact ⟨vs, e _ _ h1, h3, h2.sm e⟩
    | dct ds =>
      obtain ⟨vs, h1, h3, h2⟩ := k
      exact ⟨vs, e _ _ h1, h3, h2.sm e⟩
    | ins C ds =>
      obtain ⟨dx, vs, h1, h3, h2⟩ := k
      exact ⟨dx, vs, e _ _ h1, h3, h2.sm e⟩
    | tab q =>
      obtain ⟨ps, h1, h2, h3⟩ := k
      refine ⟨ps, e _ _ h1, h2, fun pos cv hc => ?_⟩
      obtain ⟨c, e1, e2, e3⟩ := h3 pos cv hc
      exact ⟨c, e1, e _ _ e2, e3⟩
    | sys =>
      obtain ⟨o, es, ep, h1, h2⟩ := k
      exact ⟨o, es, ep, e _ _ h1, h2⟩
    | xob C fs =>
      obtain ⟨o, us, h1, h2, h3, h4⟩ := k
      exact ⟨o, us, e _ _ h1, h2, h3, h4.imp id fun ⟨dd, gs, e1, e2, e3, e4, e5⟩ => ⟨dd, gs, e1, e2, e _ _ e3, e4, e5.sm e⟩⟩
theorem Step.same (e : Same H H') : Step S M H S M H' := ⟨fun b u n h => ⟨e _ _ h, n, Iff.rfl⟩⟩
/-- one more object stands apart -/
theorem held_set {a : Addr} {mo : MO} (f : ∀ a, ¬ S a → H a ≠ none → ¬ S' a) (k : Held S H a mo) : Held S' H a mo := by
  cases mo with
  | lst ds =>
    obtain ⟨vs, h1, h2⟩ := k
    exact ⟨vs, h1, DtA.set f ds h2⟩
  | dic ds =>
    obtain ⟨vs, h1, h3, h2⟩ := k
    exact ⟨vs, h1, h3, DtA.set f _ h2⟩
  | dct ds =>
    obtain ⟨vs, h1, h3, h2⟩ := k
    exact ⟨vs, h1, h3, DtA.set f _ h2⟩
  | ins C ds =>
    obtain ⟨dx, vs, h1, h3, h2⟩ := k
    exact ⟨dx, vs, h1, h3, DtA.set f _ h2⟩
  | tab q =>
    obtain ⟨ps, h1, h2, h3⟩ := k
    refine ⟨ps, h1, h2, fun pos cv hc => ?_⟩
    obtain ⟨c, e1, e2, e3⟩ := h3 pos cv hc
    exact ⟨c, e1, e2, f _ e3 (by rw [e2]; exact fun z => nomatch z)⟩
  | sys => exact k
  | xob C fs =>
    obtain ⟨o, us, h1, h2, h3, h4⟩ := k
    exact ⟨o, us, h1, h2, h3, h4.imp id fun ⟨dd, gs, e1, e2, e3, e4, e5⟩ => ⟨dd, gs, e1, f _ e2 (by rw [e3]; exact fun z => nomatch z), e3, e4, DtA.set f _ e5⟩⟩
theorem held_ext {a : Addr} {mo : MO} (e : Ext S H H') (ha : ∀ o, H a = some o → H' a = some o) (k : Held S H a mo) : Held S H' a mo := by
  cases mo with
  | lst ds =>
    obtain ⟨vs, h1, h2⟩ := k
    exact ⟨vs, ha _ h1, h2.go e⟩
  | dic ds =>
    obtain ⟨vs, h1, h3, h2⟩ := k
    exact ⟨vs, ha _ h1, h3, h2.go e⟩
  | dct ds =>
    obtain ⟨vs, h1, h3, h2⟩ := k
    exact ⟨vs, ha _ h1, h3, h2.go e⟩
  | ins C ds =>
    obtain ⟨dx, vs, h1, h3, h2⟩ := k
    exact ⟨dx, vs, ha _ h1, h3, h2.go e⟩
  | tab q =>
    obtain ⟨ps, h1, h2, h3⟩ := k
    refine ⟨ps, ha _ h1, h2, fun pos cv hc => ?_⟩
    obtain ⟨c, e1, e2, e3⟩ := h3 pos cv hc
    exact ⟨c, e1, e _ _ e3 e2, e3⟩
  | sys =>
    obtain ⟨o, es, ep, h1, h2⟩ := k
    exact ⟨o, es, ep, ha _ h1, h2⟩
  | xob C fs =>
    obtain ⟨o, us, h1, h2, h3, h4⟩ := k
    exact ⟨o, us, ha _ h1, h2, h3, h4.imp id fun ⟨dd, gs, e1, e2, e3, e4, e5⟩ => ⟨dd, gs, e1, e2, e _ _ e2 e3, e4, e5.go e⟩⟩
theorem Wo.apart (w : Wo S M H) {p : Addr} {o : HO} (h : H p = none) : Wo (fun a => S a ∨ a = p) M (upd H p o) := by
  have w1 := w.new (o := o) h
  refine ⟨fun a s => ?_, fun a mo e => ?_⟩
  · rcases s with s | rfl
    · exact w1.tr a s
    · rw [upd_same]
      exact fun z => nomatch z
  · obtain ⟨s, k⟩ := w.mem a mo e
    have na : a ≠ p := fun z => w.tr a s (by rw [z]; exact h)
    have k1 : Held (fun a => S a ∨ a = p) H a mo := held_set (fun b n k z => z.elim n fun q => k (by rw [q]; exact h)) k
    exact ⟨.inl s, held_ext (Ext.of (Same.new h)) (fun u hu => (upd_ne na).trans hu) k1⟩
theorem Step.apart {p : Addr} {o : HO} (h : H p = none) : Step S M H (fun a => S a ∨ a = p) M (upd H p o) := ⟨fun b u n e => ⟨Same.new h b u e, n, ⟨fun z => z.elim id fun q => (ne_of_none e h q).elim, .inl⟩⟩⟩
/-- .. and may change -/
theorem Wo.mutable (w : Wo S M H) {p : Addr} {o : HO} {mo : MO} (h : H p = none) (k : Held (fun a => S a ∨ a = p) (upd H p o) p mo) : Wo (fun a => S a ∨ a = p) (mset M p mo) (upd H p o) := by
  have w1 := w.apart (o := o) h
  refine ⟨w1.tr, fun a mo' e => ?_⟩
  by_cases c : a = p
  · subst c
    rw [mset_same] at e
    cases e
    exact ⟨.inr rfl, k⟩
  · rw [mset_ne c] at e
    exact w1.mem a mo' e
theorem Step.mutable (w : Wo S M H) {p : Addr} {o : HO} {mo : MO} (h : H p = none) : Step S M H (fun a => S a ∨ a = p) (mset M p mo) (upd H p o) := ⟨fun b u n e => ⟨Same.new h b u e, by rw [mset_ne (ne_of_none e h)]; exact n, ⟨fun z => z.elim id fun q => (ne_of_none e h q).elim, .inl⟩⟩⟩
/-- a change -/
theorem Wo.change (w : Wo S M H) {p : Addr} {o : HO} {mo mo' : MO} (h : M p = some mo) (k : Held S (upd H p o) p mo') : Wo S (mset M p mo') (upd H p o) := by
  have sp := (w.mem p mo h).1
  have ex : Ext S H (upd H p o) := Ext.mut (Ext.refl _) sp
  refine ⟨fun a s => ?_, fun a m e => ?_⟩
  · by_cases c : a = p
    · rw [c, upd_same]
      exact fun z => nomatch z
    · rw [upd_ne c]
      exact w.tr a s
  · by_cases c : a = p
    · subst c
      rw [mset_same] at e
      cases e
      exact ⟨sp, k⟩
    · rw [mset_ne c] at e
      obtain ⟨s, q⟩ := w.mem a m e
      exact ⟨s, held_ext ex (fun u hu => (upd_ne c).trans hu) q⟩
theorem Step.change {p : Addr} {o : HO} {mo mo' : MO} (h : M p = some mo) : Step S M H S (mset M p mo') (upd H p o) := ⟨fun b u n e => by
  have c : b ≠ p := by rintro rfl; rw [h] at n; cases n
  exact ⟨(upd_ne c).trans e, (mset_ne c).trans n, Iff.rfl⟩⟩
/-- an object changes no more -/
theorem Wo.freeze (w : Wo S M H) {p : Addr} : Wo (fun a => S a ∧ a ≠ p) (mdel M p) H := by
  refine ⟨fun a s => w.tr a s.1, fun a mo e => ?_⟩
  unfold mdel at e
  split at e
  · cases e
  · rename_i c
    obtain ⟨s, k⟩ := w.mem a mo e
    exact ⟨⟨s, c⟩, held_set (fun b n _ z => n z.1) k⟩
theorem Step.freeze {p : Addr} {mo : MO} (h : M p = some mo) : Step S M H (fun a => S a ∧ a ≠ p) (mdel M p) H := ⟨fun b u n e => by
  have c : b ≠ p := by rintro rfl; rw [h] at n; cases n
  exact ⟨e, (if_neg c).trans n, ⟨fun z => z.1, fun z => ⟨z, c⟩⟩⟩⟩
theorem dtA_freeze {p : Addr} {v : List V} {d : List D} (h : DtA S H v d) : DtA (fun a => S a ∧ a ≠ p) H v d := DtA.set (fun b n _ z => n z.1) d h
/-- what has been made since is of no use -/
def Mle (M M' : Mem) : Prop := ∀ a mo, M a = some mo → M' a = some mo
theorem Wo.drop (w : Wo S M' H) (l : Mle M M') : Wo S M H := ⟨w.tr, fun a mo e => w.mem a mo (l a mo e)⟩
end
abbrev QD := D → Mem → Prop
abbrev DE := Dl → Mem → QD → Prop
abbrev DT := Dl → Mem → (Bool → Mem → Prop) → Prop
abbrev DA := Dl → Mem → (List D → Mem → Prop) → Prop
/-- what is reached: S', M', H' behind S, M, H -/
def AtE (S : Addr → Prop) (M : Mem) (H : Hp) (P : QD) (Q : VK) : Prop := ∀ d S' M' v H', P d M' → Step S M H S' M' H' → Wo S' M' H' → Dt S' H' v d → Q v H'
def AtT (S : Addr → Prop) (M : Mem) (H : Hp) (P : Bool → Mem → Prop) (Q : Bool → Hp → Prop) : Prop := ∀ b S' M' H', P b M' → Step S M H S' M' H' → Wo S' M' H' → Q b H'
def AtA (S : Addr → Prop) (M : Mem) (H : Hp) (P : List D → Mem → Prop) (Q : List V → Hp → Prop) : Prop := ∀ ds S' M' vs H', P ds M' → Step S M H S' M' H' → Wo S' M' H' → DtA S' H' vs ds → Q vs H'
class PuE (t : TE) (dt : outParam DE) : Prop where
  run : ∀ S M σ δ H P Q, Wo S M H → En S H σ δ → dt δ M P → AtE S M H P Q → t σ H Q
class PuT (t : TT) (dt : outParam DT) : Prop where
  run : ∀ S M σ δ H P Q, Wo S M H → En S H σ δ → dt δ M P → AtT S M H P Q → t σ H Q
class PuA (t : TA) (dt : outParam DA) : Prop where
  run : ∀ S M σ δ H P Q, Wo S M H → En S H σ δ → dt δ M P → AtA S M H P Q → t σ H Q
section
variable {S S' : Addr → Prop} {M M' : Mem} {H H' : Hp}
theorem AtE.go {P : QD} {Q : VK} (a : AtE S M H P Q) (t : Step S M H S' M' H') : AtE S' M' H' P Q := fun d S2 M2 v H2 p t2 w2 h => a d S2 M2 v H2 p (t.trans t2) w2 h
theorem AtT.go {P : Bool → Mem → Prop} {Q : Bool → Hp → Prop} (a : AtT S M H P Q) (t : Step S M H S' M' H') : AtT S' M' H' P Q := fun d S2 M2 H2 p t2 w2 => a d S2 M2 H2 p (t.trans t2) w2
theorem AtA.go {P : List D → Mem → Prop} {Q : List V → Hp → Prop} (a : AtA S M H P Q) (t : Step S M H S' M' H') : AtA S' M' H' P Q := fun d S2 M2 v H2 p t2 w2 h => a d S2 M2 v H2 p (t.trans t2) w2 h
end
/-- an operation on two values, over data -/
abbrev DR := D → D → Mem → QD → Prop
class OpD (r : R2) (rd : outParam DR) : Prop where
  run : ∀ S M H x y dx dy P Q, Wo S M H → Dt S H x dx → Dt S H y dy → rd dx dy M P → AtE S M H P Q → r x y H Q
abbrev DC := List D → Mem → QD → Prop
class CbD (r : List V → Hp → VK → Prop) (rd : outParam DC) : Prop where
  run : ∀ S M H vs ds P Q, Wo S M H → DtA S H vs ds → rd ds M P → AtE S M H P Q → r vs H Q
/-- a tuple of either kind -/
def isTF (x : D) (xs : List D) : Prop := match x with
  | .tup ys => ys = xs
  | .ftp ys => ys = xs
  | _ => False
theorem tf_cases {x : D} {xs : List D} (h : isTF x xs) : x = .tup xs ∨ x = .ftp xs := by
  cases x <;> first | (cases h; exact .inl rfl) | (cases h; exact .inr rfl) | exact h.elim
theorem tf_get {S : Addr → Prop} {H : Hp} {v : V} {x : D} {xs : List D} (h : Dt S H v x) (e : isTF x xs) : ∃ a vs, v = .ref a ∧ ¬ S a ∧ Rd H a (.tup vs) ∧ DtA S H vs xs := by
  rcases tf_cases e with rfl | rfl
  · cases h with
    | tup n ha hs => exact ⟨_, _, rfl, n, Or.inl ha, hs⟩
  · cases h with
    | ftp n ha hd hs => exact ⟨_, _, rfl, n, Or.inr ⟨_, ha⟩, hs⟩
def dVar (i : Nat) : DE := fun δ M P => ∃ d, δ[i]? = some (some d) ∧ P d M
def dC (d : D) : DE := fun _ M P => P d M
def dOp (r : DR) (a b : DE) : DE := fun δ M P => a δ M fun x M1 => b δ M1 fun y M2 => r x y M2 P
def dNil : DA := fun _ M P => P [] M
def dCons (a : DE) (r : DA) : DA := fun δ M P => a δ M fun x M1 => r δ M1 fun xs M2 => P (x :: xs) M2
def dTup (t : DA) : DE := fun δ M P => t δ M fun xs M1 => xs.length ≤ sizeLine ∧ P (.tup xs) M1
def dLst (t : DA) : DE := fun δ M P => t δ M fun xs M1 => xs.length ≤ sizeLine ∧ P (.lst xs) M1
def dLstM (t : DA) : DE := fun δ M P => t δ M fun xs M1 => xs.length ≤ sizeLine ∧ ∀ a, M1 a = none → P (.ptr a) (mset M1 a (.lst xs))
def dIf (c : DT) (a b : DE) : DE := fun δ M P => c δ M fun k M1 => if k = true then a δ M1 P else b δ M1 P
def dB (a : DE) : DT := fun δ M P => a δ M fun x M1 => ∃ b, x = .bl b ∧ P b M1
def dAnd (a b : DT) : DT := fun δ M P => a δ M fun c M1 => if c = true then b δ M1 P else P false M1
def dOr (a b : DT) : DT := fun δ M P => a δ M fun c M1 => if c = true then P true M1 else b δ M1 P
def dNot (a : DT) : DT := fun δ M P => a δ M fun c M1 => P (!c) M1
def dAndV (a b : DE) : DE := fun δ M P => a δ M fun x M1 => ∃ c, x = .bl c ∧ if c = true then b δ M1 P else P (.bl false) M1
def dOrV (a b : DE) : DE := fun δ M P => a δ M fun x M1 => ∃ c, x = .bl c ∧ if c = true then P (.bl true) M1 else b δ M1 P
def dNotV (a : DE) : DE := fun δ M P => a δ M fun x M1 => ∃ c, x = .bl c ∧ P (.bl (!c)) M1
def dChain (r r' : DR) (a b c : DE) : DE := fun δ M P => a δ M fun x M1 => b δ M1 fun y M2 => r x y M2 fun z M3 => ∃ k, z = .bl k ∧ if k = true then c δ M3 fun w M4 => r' y w M4 P else P (.bl false) M3
def dCB (r : DC) (t : DA) : DE := fun δ M P => t δ M fun xs M1 => r xs M1 P
def dThen (a : DE) (k : D → Mem → QD → Prop) : DE := fun δ M P => a δ M fun x M1 => k x M1 P
def dStar (a : DE) (t : DA) : DA := fun δ M P => a δ M fun x M1 => ∃ xs, (isTF x xs ∨ x = .lst xs ∨ ∃ p, x = .ptr p ∧ M1 p = some (.lst xs)) ∧ t δ M1 fun ys M2 => P (xs ++ ys) M2
section
variable {ta tb tc te : TE} {da db dc : DE} {r r' : R2} {rd rd' : DR} {t : TA} {dt : DA} {c c' : TT} {dk dk' : DT}
instance pu_var {i : Nat} : PuE (tVar i) (dVar i) := ⟨fun S M σ δ H P Q w e h k => by
  obtain ⟨d, hd, p⟩ := h
  obtain ⟨v, hv, hD⟩ := e.at_ i d hd
  exact ⟨v, hv, k d S M v H p .refl w hD⟩⟩
instance pu_non : PuE (tC .non) (dC .non) := ⟨fun S M σ δ H P Q w e h k => k _ S M _ H h .refl w .non⟩
instance pu_bl {b : Bool} : PuE (tC (.bl b)) (dC (.bl b)) := ⟨fun S M σ δ H P Q w e h k => k _ S M _ H h .refl w (.bl b)⟩
instance pu_int {b : Int} : PuE (tC (.int b)) (dC (.int b)) := ⟨fun S M σ δ H P Q w e h k => k _ S M _ H h .refl w (.int b)⟩
instance pu_str {b : Str} : PuE (tC (.str b)) (dC (.str b)) := ⟨fun S M σ δ H P Q w e h k => k _ S M _ H h .refl w (.str b)⟩
instance pu_ref {b : Addr} : PuE (tC (.ref b)) (dC (.ptr b)) := ⟨fun S M σ δ H P Q w e h k => k _ S M _ H h .refl w (.ptr b)⟩
instance pu_ty {b : String} : PuE (tC (.ty b)) (dC (.ty b)) := ⟨fun S M σ δ H P Q w e h k => k _ S M _ H h .refl w (.ty b)⟩
instance pu_op [A : PuE ta da] [B : PuE tb db] [R : OpD r rd] : PuE (tOp r ta tb) (dOp rd da db) := ⟨fun S M σ δ H P Q w e h k =>
  A.run S M σ δ H _ _ w e h fun d S1 M1 v H1 p1 t1 w1 h1 =>
    B.run S1 M1 σ δ H1 _ _ w1 (e.step w t1) p1 fun d2 S2 M2 v2 H2 p2 t2 w2 h2 =>
      R.run S2 M2 H2 _ _ _ _ P Q w2 (dt_step w1 t2 _ h1) h2 p2 (k.go (t1.trans t2))⟩
instance pu_nil : PuA tNil dNil := ⟨fun S M σ δ H P Q w e h k => k _ S M _ H h .refl w .nil⟩
instance pu_cons [A : PuE ta da] [B : PuA t dt] : PuA (tCons ta t) (dCons da dt) := ⟨fun S M σ δ H P Q w e h k =>
  A.run S M σ δ H _ _ w e h fun d S1 M1 v H1 p1 t1 w1 h1 =>
    B.run S1 M1 σ δ H1 _ _ w1 (e.step w t1) p1 fun d2 S2 M2 v2 H2 p2 t2 w2 h2 =>
      k _ S2 M2 _ H2 p2 (t1.trans t2) w2 (.cons (dt_step w1 t2 _ h1) h2)⟩
instance pu_tup [A : PuA t dt] : PuE (tTup t) (dTup dt) := ⟨fun S M σ δ H P Q w e h k =>
  A.run S M σ δ H _ _ w e h fun d S1 M1 v H1 p1 t1 w1 h1 => ⟨by rw [h1.length]; exact p1.1, fun p np =>
    k _ S1 M1 _ _ p1.2 (t1.trans (.new np)) (w1.new np) (.tup (w1.ns np) upd_same (h1.sm (Same.new np)))⟩⟩
instance pu_lst [A : PuA t dt] : PuE (tLst t) (dLst dt) := ⟨fun S M σ δ H P Q w e h k =>
  A.run S M σ δ H _ _ w e h fun d S1 M1 v H1 p1 t1 w1 h1 => ⟨by rw [h1.length]; exact p1.1, fun p np =>
    k _ S1 M1 _ _ p1.2 (t1.trans (.new np)) (w1.new np) (.lst (w1.ns np) upd_same (h1.sm (Same.new np)))⟩⟩
instance pu_if [C : PuT c dk] [A : PuE ta da] [B : PuE tb db] : PuE (tIf c ta tb) (dIf dk da db) := ⟨fun S M σ δ H P Q w e h k =>
  C.run S M σ δ H _ _ w e h fun b S1 M1 H1 p1 t1 w1 => by
    cases b with
    | true =>
      rw [if_pos rfl] at p1 ⊢
      exact A.run S1 M1 σ δ H1 P Q w1 (e.step w t1) p1 (k.go t1)
    | false =>
      rw [if_neg Bool.false_ne_true] at p1 ⊢
      exact B.run S1 M1 σ δ H1 P Q w1 (e.step w t1) p1 (k.go t1)⟩
instance pu_tB [A : PuE ta da] : PuT (tB ta) (dB da) := ⟨fun S M σ δ H P Q w e h k =>
  A.run S M σ δ H _ _ w e h fun d S1 M1 v H1 p1 t1 w1 h1 => by
    obtain ⟨b, rfl, p1⟩ := p1
    cases h1
    exact ⟨b, rfl, k b S1 M1 H1 p1 t1 w1⟩⟩
instance pu_tTest [A : PuE ta da] : PuT (tTest ta) (dB da) := ⟨fun S M σ δ H P Q w e h k =>
  A.run S M σ δ H _ _ w e h fun d S1 M1 v H1 p1 t1 w1 h1 => by
    obtain ⟨b, rfl, p1⟩ := p1
    cases h1
    exact ⟨b, rfl, k b S1 M1 H1 p1 t1 w1⟩⟩
instance pu_and [A : PuT c dk] [B : PuT c' dk'] : PuT (tAnd c c') (dAnd dk dk') := ⟨fun S M σ δ H P Q w e h k =>
  A.run S M σ δ H _ _ w e h fun b S1 M1 H1 p1 t1 w1 => by
    cases b with
    | true =>
      rw [if_pos rfl] at p1 ⊢
      exact B.run S1 M1 σ δ H1 P Q w1 (e.step w t1) p1 (k.go t1)
    | false =>
      rw [if_neg Bool.false_ne_true] at p1 ⊢
      exact k false S1 M1 H1 p1 t1 w1⟩
instance pu_or [A : PuT c dk] [B : PuT c' dk'] : PuT (tOr c c') (dOr dk dk') := ⟨fun S M σ δ H P Q w e h k =>
  A.run S M σ δ H _ _ w e h fun b S1 M1 H1 p1 t1 w1 => by
    cases b with
    | true =>
      rw [if_pos rfl] at p1 ⊢
      exact k true S1 M1 H1 p1 t1 w1
    | false =>
      rw [if_neg Bool.false_ne_true] at p1 ⊢
      exact B.run S1 M1 σ δ H1 P Q w1 (e.step w t1) p1 (k.go t1)⟩
instance pu_not [A : PuT c dk] : PuT (tNot c) (dNot dk) := ⟨fun S M σ δ H P Q w e h k =>
  A.run S M σ δ H _ _ w e h fun b S1 M1 H1 p1 t1 w1 => k _ S1 M1 H1 p1 t1 w1⟩
instance pu_andV [A : PuE ta da] [B : PuE tb db] : PuE (tAndV ta tb) (dAndV da db) := ⟨fun S M σ δ H P Q w e h k =>
  A.run S M σ δ H _ _ w e h fun d S1 M1 v H1 p1 t1 w1 h1 => by
    obtain ⟨b, rfl, p1⟩ := p1
    cases h1
    refine ⟨b, rfl, ?_⟩
    cases b with
    | true =>
      rw [if_pos rfl] at p1 ⊢
      exact B.run S1 M1 σ δ H1 P Q w1 (e.step w t1) p1 (k.go t1)
    | false =>
      rw [if_neg Bool.false_ne_true] at p1 ⊢
      exact k _ S1 M1 _ H1 p1 t1 w1 (.bl false)⟩
instance pu_notV [A : PuE ta da] : PuE (tNotV ta) (dNotV da) := ⟨fun S M σ δ H P Q w e h k =>
  A.run S M σ δ H _ _ w e h fun d S1 M1 v H1 p1 t1 w1 h1 => by
    obtain ⟨b, rfl, p1⟩ := p1
    cases h1
    exact ⟨b, rfl, k _ S1 M1 _ H1 p1 t1 w1 (.bl _)⟩⟩
instance pu_chain [A : PuE ta da] [B : PuE tb db] [C : PuE tc dc] [R : OpD r rd] [R' : OpD r' rd'] : PuE (tChain r r' ta tb tc) (dChain rd rd' da db dc) := ⟨fun S M σ δ H P Q w e h k =>
  A.run S M σ δ H _ _ w e h fun d S1 M1 v H1 p1 t1 w1 h1 =>
    B.run S1 M1 σ δ H1 _ _ w1 (e.step w t1) p1 fun d2 S2 M2 v2 H2 p2 t2 w2 h2 =>
      R.run S2 M2 H2 _ _ _ _ _ _ w2 (dt_step w1 t2 _ h1) h2 p2 fun d3 S3 M3 v3 H3 p3 t3 w3 h3 => by
        obtain ⟨b, rfl, p3⟩ := p3
        cases h3
        refine ⟨b, rfl, ?_⟩
        have t13 := (t1.trans t2).trans t3
        cases b with
        | true =>
          rw [if_pos rfl] at p3 ⊢
          exact C.run S3 M3 σ δ H3 _ _ w3 (e.step w t13) p3 fun d4 S4 M4 v4 H4 p4 t4 w4 h4 => R'.run S4 M4 H4 _ _ _ _ P Q w4 (dt_step w2 (t3.trans t4) _ h2) h4 p4 (k.go (t13.trans t4))
        | false =>
          rw [if_neg Bool.false_ne_true] at p3 ⊢
          exact k _ S3 M3 _ H3 p3 t13 w3 (.bl false)⟩
instance pu_cb {r : List V → Hp → VK → Prop} {rd : DC} [A : PuA t dt] [R : CbD r rd] : PuE (tCB r t) (dCB rd dt) := ⟨fun S M σ δ H P Q w e h k =>
  A.run S M σ δ H _ _ w e h fun d S1 M1 v H1 p1 t1 w1 h1 => R.run S1 M1 H1 _ _ P Q w1 h1 p1 (k.go t1)⟩
instance pu_star {K : PySem.W.Frag} [A : PuE te da] [B : PuA t dt] : PuA (tStar K te t) (dStar da dt) := ⟨fun S M σ δ H P Q w e h k =>
  A.run S M σ δ H _ _ w e h fun d S1 M1 v H1 p1 t1 w1 h1 => by
    obtain ⟨xs, hx, p1⟩ := p1
    have go : ∀ vs, DtA S1 H1 vs xs → t σ H1 (fun ys H2 => Q (vs ++ ys) H2) := fun vs hvs =>
      B.run S1 M1 σ δ H1 _ _ w1 (e.step w t1) p1 fun d2 S2 M2 v2 H2 p2 t2 w2 h2 => k _ S2 M2 _ H2 p2 (t1.trans t2) w2 ((dtA_step w1 t2 _ hvs).append h2)
    rcases hx with hx | rfl | ⟨p, rfl, hp⟩
    · obtain ⟨a, vs, rfl, n, ha, hs⟩ := tf_get h1 hx
      exact ⟨_, _, rfl, .inl (Or.inl ha), go _ hs⟩
    · cases h1 with
      | lst n ha hs => exact ⟨_, _, rfl, .inr (SqL.of ha), go _ hs⟩
    · cases h1
      obtain ⟨_, vs, ha, hs⟩ := w1.mem p _ hp
      exact ⟨_, _, rfl, .inr (SqL.of ha), go _ hs⟩⟩
end
end V
namespace V
open PySem PySem.Spec PyProof.Rows L2 U StX
mutual
def D.eqb : D → D → Bool
  | .non, .non => true
  | .bl a, .bl b => a == b
  | .bl a, .int j => (if a then 1 else 0) == j
  | .int i, .bl b => i == (if b then 1 else 0)
  | .int i, .int j => i == j
  | .str x, .str y => x == y
  | .lst xs, .lst ys => D.eqbs xs ys
  | .tup xs, .tup ys => D.eqbs xs ys
  | .tup xs, .ftp ys => D.eqbs xs ys
  | .ftp xs, .tup ys => D.eqbs xs ys
  | .ftp xs, .ftp ys => D.eqbs xs ys
  | _, _ => false
def D.eqbs : List D → List D → Bool
  | [], [] => true
  | x :: xs, y :: ys => D.eqb x y && D.eqbs xs ys
  | _, _ => false
end
theorem py_lst {ds : List D} {p : PyData} (h : D.py (.lst ds) = some p) : ∃ ps, D.pys ds = some ps ∧ p = .list ps := by
  rw [D.py] at h
  obtain ⟨ps, h1, h2⟩ := Option.map_eq_some_iff.mp h
  exact ⟨ps, h1, h2.symm⟩
theorem py_tup {ds : List D} {p : PyData} (h : D.py (.tup ds) = some p) : ∃ ps, D.pys ds = some ps ∧ p = .tuple ps := by
  rw [D.py] at h
  obtain ⟨ps, h1, h2⟩ := Option.map_eq_some_iff.mp h
  exact ⟨ps, h1, h2.symm⟩
theorem py_ftp {ds : List D} {p : PyData} (h : D.py (.ftp ds) = some p) : ∃ ps, D.pys ds = some ps ∧ p = .tuple ps := by
  rw [D.py] at h
  obtain ⟨ps, h1, h2⟩ := Option.map_eq_some_iff.mp h
  exact ⟨ps, h1, h2.symm⟩
theorem pys_cons {d : D} {ds : List D} {q : List PyData} (h : D.pys (d :: ds) = some q) : ∃ p ps, D.py d = some p ∧ D.pys ds = some ps ∧ q = p :: ps := by
  rw [D.pys] at h
  cases h1 : D.py d with
  | none => rw [h1] at h; cases h
  | some p =>
    cases h2 : D.pys ds with
    | none => rw [h1, h2] at h; cases h
    | some ps => rw [h1, h2] at h; cases h; exact ⟨p, ps, rfl, rfl, rfl⟩
mutual
theorem eqv_py : ∀ (d e : D) (p q : PyData), D.py d = some p → D.py e = some q → PyData.eqv p q = D.eqb d e
  | .non, e, p, q, hp, hq => by
    rw [D.py] at hp; cases hp
    cases e <;> first | (rw [D.py] at hq; cases hq; first | rfl | (rw [PyData.eqv, D.eqb] <;> simp)) | (obtain ⟨_, _, rfl⟩ := py_lst hq; rw [PyData.eqv, D.eqb] <;> simp) | (obtain ⟨_, _, rfl⟩ := py_tup hq; rw [PyData.eqv, D.eqb] <;> simp) | (obtain ⟨_, _, rfl⟩ := py_ftp hq; rw [PyData.eqv, D.eqb] <;> simp) | (rw [D.py] at hq <;> first | cases hq | simp)
  | .bl b, e, p, q, hp, hq => by
    rw [D.py] at hp; cases hp
    cases e <;> first | (rw [D.py] at hq; cases hq; first | rfl | (rw [PyData.eqv, D.eqb] <;> simp)) | (obtain ⟨_, _, rfl⟩ := py_lst hq; rw [PyData.eqv, D.eqb] <;> simp) | (obtain ⟨_, _, rfl⟩ := py_tup hq; rw [PyData.eqv, D.eqb] <;> simp) | (obtain ⟨_, _, rfl⟩ := py_ftp hq; rw [PyData.eqv, D.eqb] <;> simp) | (rw [D.py] at hq <;> first | cases hq | simp)
  | .int i, e, p, q, hp, hq => by
    rw [D.py] at hp; cases hp
    cases e <;> first | (rw [D.py] at hq; cases hq; first | rfl | (rw [PyData.eqv, D.eqb] <;> simp)) | (obtain ⟨_, _, rfl⟩ := py_lst hq; rw [PyData.eqv, D.eqb] <;> simp) | (obtain ⟨_, _, rfl⟩ := py_tup hq; rw [PyData.eqv, D.eqb] <;> simp) | (obtain ⟨_, _, rfl⟩ := py_ftp hq; rw [PyData.eqv, D.eqb] <;> simp) | (rw [D.py] at hq <;> first | cases hq | simp)
  | .str x, e, p, q, hp, hq => by
    rw [D.py] at hp; cases hp
    cases e <;> first | (rw [D.py] at hq; cases hq; first | rfl | (rw [PyData.eqv, D.eqb] <;> simp)) | (obtain ⟨_, _, rfl⟩ := py_lst hq; rw [PyData.eqv, D.eqb] <;> simp) | (obtain ⟨_, _, rfl⟩ := py_tup hq; rw [PyData.eqv, D.eqb] <;> simp) | (obtain ⟨_, _, rfl⟩ := py_ftp hq; rw [PyData.eqv, D.eqb] <;> simp) | (rw [D.py] at hq <;> first | cases hq | simp)
  | .lst ds, e, p, q, hp, hq => by
    obtain ⟨ps, h1, rfl⟩ := py_lst hp
    cases e with
    | lst es =>
      obtain ⟨qs, h2, rfl⟩ := py_lst hq
      rw [PyData.eqv, D.eqb]
      exact eqvs_py ds es ps qs h1 h2
    | tup es => obtain ⟨_, _, rfl⟩ := py_tup hq; rw [PyData.eqv, D.eqb] <;> simp
    | ftp es => obtain ⟨_, _, rfl⟩ := py_ftp hq; rw [PyData.eqv, D.eqb] <;> simp
    | _ => first | (rw [D.py] at hq; cases hq; rw [PyData.eqv, D.eqb] <;> simp) | (rw [D.py] at hq <;> first | cases hq | simp)
  | .tup ds, e, p, q, hp, hq => by
    obtain ⟨ps, h1, rfl⟩ := py_tup hp
    cases e with
    | tup es =>
      obtain ⟨qs, h2, rfl⟩ := py_tup hq
      rw [PyData.eqv, D.eqb]
      exact eqvs_py ds es ps qs h1 h2
    | lst es => obtain ⟨_, _, rfl⟩ := py_lst hq; rw [PyData.eqv, D.eqb] <;> simp
    | ftp es =>
      obtain ⟨qs, h2, rfl⟩ := py_ftp hq
      rw [PyData.eqv, D.eqb]
      exact eqvs_py ds es ps qs h1 h2
    | _ => first | (rw [D.py] at hq; cases hq; rw [PyData.eqv, D.eqb] <;> simp) | (rw [D.py] at hq <;> first | cases hq | simp)
  | .ins C ns xs, e, p, q, hp, hq => by rw [D.py] at hp <;> first | cases hp | simp
  | .ptr a, e, p, q, hp, hq => by rw [D.py] at hp <;> first | cases hp | simp
  | .ty a, e, p, q, hp, hq => by rw [D.py] at hp <;> first | cases hp | simp
  | .opq a o, e, p, q, hp, hq => by rw [D.py] at hp <;> first | cases hp | simp
  | .ftp ds, e, p, q, hp, hq => by
    obtain ⟨ps, h1, rfl⟩ := py_ftp hp
    cases e with
    | tup es =>
      obtain ⟨qs, h2, rfl⟩ := py_tup hq
      rw [PyData.eqv, D.eqb]
      exact eqvs_py ds es ps qs h1 h2
    | ftp es =>
      obtain ⟨qs, h2, rfl⟩ := py_ftp hq
      rw [PyData.eqv, D.eqb]
      exact eqvs_py ds es ps qs h1 h2
    | lst es => obtain ⟨_, _, rfl⟩ := py_lst hq; rw [PyData.eqv, D.eqb] <;> simp
    | _ => first | (rw [D.py] at hq; cases hq; rw [PyData.eqv, D.eqb] <;> simp) | (rw [D.py] at hq <;> first | cases hq | simp)
theorem eqvs_py : ∀ (ds es : List D) (ps qs : List PyData), D.pys ds = some ps → D.pys es = some qs → PyData.eqvAll ps qs = D.eqbs ds es
  | [], [], ps, qs, hp, hq => by rw [D.pys] at hp hq; cases hp; cases hq; rw [PyData.eqvAll, D.eqbs]
  | [], e :: es, ps, qs, hp, hq => by
    obtain ⟨p, qs, h1, h2, rfl⟩ := pys_cons hq
    rw [D.pys] at hp; cases hp
    rw [PyData.eqvAll, D.eqbs] <;> simp
  | d :: ds, [], ps, qs, hp, hq => by
    obtain ⟨p, qs, h1, h2, rfl⟩ := pys_cons hp
    rw [D.pys] at hq; cases hq
    rw [PyData.eqvAll, D.eqbs] <;> simp
  | d :: ds, e :: es, ps, qs, hp, hq => by
    obtain ⟨p, ps, h1, h2, rfl⟩ := pys_cons hp
    obtain ⟨q, qs, h3, h4, rfl⟩ := pys_cons hq
    rw [PyData.eqvAll, D.eqbs, eqv_py d e p q h1 h3, eqvs_py ds es ps qs h2 h4]
end
/-- data that == looks through -/
def EqOk (d : D) : Prop := ∃ p, D.py d = some p ∧ SeqAt.shaped p = true
theorem EqOk.of {W k : Nat} {d : D} (h : okP W k d) (hk : k ≤ 64) : EqOk d := by
  obtain ⟨p, e, o⟩ := h
  exact ⟨p, e, o.shaped hk⟩
theorem eqb_refl {d : D} (h : EqOk d) : D.eqb d d = true := by
  obtain ⟨p, e, s⟩ := h
  rw [← eqv_py d d p p e e]
  exact SeqAt.eqv_refl p (Bool.and_eq_true_iff.mp s).1
/-- what a name of a changing list stands for -/
def vw (M : Mem) (d : D) : D := match d with
  | .ptr a => match M a with
    | some (.lst ds) => .lst ds
    | _ => .ptr a
  | d => d
section
variable {S S' : Addr → Prop} {M M' : Mem} {H H' : Hp} {K : PySem.W.Frag}
theorem dt_vw (w : Wo S M H) {v : V} {d : D} {p : PyData} (h : Dt S H v d) (e : D.py (vw M d) = some p) : Dp K H v p := by
  cases d with
  | ptr a =>
    unfold vw at e
    cases hm : M a with
    | none => simp only [hm] at e; rw [D.py] at e <;> first | cases e | simp
    | some mo =>
      cases mo with
      | lst ds =>
        simp only [hm] at e
        cases h
        obtain ⟨_, vs, h1, h2⟩ := w.mem a _ hm
        obtain ⟨ps, e1, rfl⟩ := py_lst e
        exact .lst (SqL.of h1) (DtA.dp ds h2 e1)
      | dic ds => simp only [hm] at e; rw [D.py] at e <;> first | cases e | simp
      | dct ds => simp only [hm] at e; rw [D.py] at e <;> first | cases e | simp
      | ins C ds => simp only [hm] at e; rw [D.py] at e <;> first | cases e | simp
      | tab q => simp only [hm] at e; rw [D.py] at e <;> first | cases e | simp
      | sys => simp only [hm] at e; rw [D.py] at e <;> first | cases e | simp
      | xob C fs => simp only [hm] at e; rw [D.py] at e <;> first | cases e | simp
  | _ => exact Dt.dp _ h e
end
/-- == : flat values as they are, data by its contents -/
def rEqA (K : PySem.W.Frag) : R2 := fun x y H Q => (scal x y = true ∧ Q (.bl (decide (x = y))) H) ∨ rEqD K x y H Q
def rNeA (K : PySem.W.Frag) : R2 := fun x y H Q => (scal x y = true ∧ Q (.bl (!decide (x = y))) H) ∨ rNeD K x y H Q
section
variable {X : Cx} {K : PySem.W.Frag}
theorem op_eqA (h : X.K = K) (hu : X.A.units + 64 < cLine) : OpR X (compareOp .Eq) (rEqA K) := by
  subst h
  intro pins s σ H x y v u Q I rx ry h
  rcases h with h | h
  · exact op_eq pins s σ H _ _ v u Q I rx ry h
  · exact op_eqD hu pins s σ H _ _ v u Q I rx ry h
theorem op_neA (h : X.K = K) (hu : X.A.units + 64 < cLine) : OpR X (compareOp .NotEq) (rNeA K) := by
  subst h
  intro pins s σ H x y v u Q I rx ry h
  rcases h with h | h
  · exact op_ne pins s σ H _ _ v u Q I rx ry h
  · exact op_neD hu pins s σ H _ _ v u Q I rx ry h
end
def eqR (M : Mem) (x y : D) (P : Bool → Prop) : Prop := match x, y with
  | .int i, .int j => P (decide (i = j))
  | .str a, .str b => P (decide (a = b))
  | .bl a, .bl b => P (decide (a = b))
  | .non, .non => P true
  | .non, .str _ => P false
  | .str _, .non => P false
  | .non, .int _ => P false
  | .int _, .non => P false
  | .int _, .str _ => P false
  | .str _, .int _ => P false
  | x, y => EqOk (vw M x) ∧ EqOk (vw M y) ∧ P (D.eqb (vw M x) (vw M y))
theorem eqR_go {S : Addr → Prop} {M : Mem} {H : Hp} {K : PySem.W.Frag} (w : Wo S M H) {x y : V} {dx dy : D} {P : Bool → Prop} (hx : Dt S H x dx) (hy : Dt S H y dy) (h : eqR M dx dy P) :
    (∃ b, scal x y = true ∧ decide (x = y) = b ∧ P b) ∨ ∃ p q, Dp K H x p ∧ Dp K H y q ∧ SeqAt.shaped p = true ∧ SeqAt.shaped q = true ∧ P (PyData.eqv p q) := by
  have gen : EqOk (vw M dx) ∧ EqOk (vw M dy) ∧ P (D.eqb (vw M dx) (vw M dy)) → ∃ p q, Dp K H x p ∧ Dp K H y q ∧ SeqAt.shaped p = true ∧ SeqAt.shaped q = true ∧ P (PyData.eqv p q) := by
    rintro ⟨⟨p, e1, s1⟩, ⟨q, e2, s2⟩, hp⟩
    exact ⟨p, q, dt_vw w hx e1, dt_vw w hy e2, s1, s2, by rw [eqv_py _ _ p q e1 e2]; exact hp⟩
  unfold eqR at h
  split at h
  · cases hx; cases hy; exact .inl ⟨_, rfl, by simp, h⟩
  · cases hx; cases hy; exact .inl ⟨_, rfl, by simp, h⟩
  · cases hx; cases hy; exact .inl ⟨_, rfl, by simp, h⟩
  · cases hx; cases hy; exact .inl ⟨_, rfl, by simp, h⟩
  · cases hx; cases hy; exact .inl ⟨_, rfl, by simp, h⟩
  · cases hx; cases hy; exact .inl ⟨_, rfl, by simp, h⟩
  · cases hx; cases hy; exact .inl ⟨_, rfl, by simp, h⟩
  · cases hx; cases hy; exact .inl ⟨_, rfl, by simp, h⟩
  · cases hx; cases hy; exact .inl ⟨_, rfl, by simp, h⟩
  · cases hx; cases hy; exact .inl ⟨_, rfl, by simp, h⟩
  · exact .inr (gen h)
def rEq1 : DR := fun x y M P => eqR M x y fun b => P (.bl b) M
def rNe1 : DR := fun x y M P => eqR M x y fun b => P (.bl (!b)) M
instance op_eq1 {K : PySem.W.Frag} : OpD (rEqA K) rEq1 := ⟨fun S M H x y dx dy P Q w hx hy h k => by
  rcases eqR_go (K := K) w hx hy h with ⟨b, s, e, p⟩ | ⟨p, q, h1, h2, h3, h4, h5⟩
  · exact .inl ⟨s, by rw [e]; exact k _ S M _ H p .refl w (.bl _)⟩
  · exact .inr ⟨p, q, h1, h2, h3, h4, k _ S M _ H h5 .refl w (.bl _)⟩⟩
instance op_ne1 {K : PySem.W.Frag} : OpD (rNeA K) rNe1 := ⟨fun S M H x y dx dy P Q w hx hy h k => by
  rcases eqR_go (K := K) w hx hy h with ⟨b, s, e, p⟩ | ⟨p, q, h1, h2, h3, h4, h5⟩
  · exact .inl ⟨s, by rw [e]; exact k _ S M _ H p .refl w (.bl _)⟩
  · exact .inr ⟨p, q, h1, h2, h3, h4, k _ S M _ H h5 .refl w (.bl _)⟩⟩
/-- what stands in a list, a tuple -/
def isSq (M : Mem) (d : D) (xs : List D) : Prop := d = .lst xs ∨ isTF d xs ∨ ∃ a, d = .ptr a ∧ M a = some (.lst xs)
def isLs (M : Mem) (d : D) (xs : List D) : Prop := d = .lst xs ∨ ∃ a, d = .ptr a ∧ M a = some (.lst xs)
section
variable {S : Addr → Prop} {M : Mem} {H : Hp} {K : PySem.W.Frag} {v : V} {d : D} {xs : List D}
theorem sq_get (w : Wo S M H) (h : Dt S H v d) (e : isSq M d xs) : ∃ a vs, v = .ref a ∧ (H a = some (.lst vs) ∨ Rd H a (.tup vs)) ∧ DtA S H vs xs := by
  rcases e with rfl | e | ⟨a, rfl, e⟩
  · cases h with
    | lst n ha hs => exact ⟨_, _, rfl, .inl ha, hs⟩
  · obtain ⟨a, vs, rfl, n, ha, hs⟩ := tf_get h e
    exact ⟨_, _, rfl, .inr ha, hs⟩
  · cases h
    obtain ⟨_, vs, h1, h2⟩ := w.mem a _ e
    exact ⟨a, vs, rfl, .inl h1, h2⟩
theorem ls_get (w : Wo S M H) (h : Dt S H v d) (e : isLs M d xs) : ∃ a vs, v = .ref a ∧ H a = some (.lst vs) ∧ DtA S H vs xs := by
  rcases e with rfl | ⟨a, rfl, e⟩
  · cases h with
    | lst n ha hs => exact ⟨_, _, rfl, ha, hs⟩
  · cases h
    obtain ⟨_, vs, h1, h2⟩ := w.mem a _ e
    exact ⟨a, vs, rfl, h1, h2⟩
end
def rAdd1 : DR := fun x y M P => match x, y with
  | .int i, .int j => P (.int (i + j)) M
  | .str a, .str b => a.length + b.length ≤ sizeLine ∧ P (.str (a ++ b)) M
  | x, y => ∃ xs ys, isLs M x xs ∧ isLs M y ys ∧ xs.length + ys.length ≤ sizeLine ∧ P (.lst (xs ++ ys)) M
theorem rAddU_l {a b : Addr} {xs ys : List V} {H : Hp} {Q : VK} (h1 : H a = some (.lst xs)) (h2 : H b = some (.lst ys)) (hl : xs.length + ys.length ≤ sizeLine) (q : ∀ r, H r = none → Q (.ref r) (upd H r (.lst (xs ++ ys)))) : rAddU (.ref a) (.ref b) H Q := ⟨xs, ys, h1, h2, hl, q⟩
instance op_add1 : OpD rAddU rAdd1 := ⟨fun S M H x y dx dy P Q w hx hy h k => by
  unfold rAdd1 at h
  split at h
  · cases hx; cases hy; exact k _ S M _ H h .refl w (.int _)
  · cases hx; cases hy; exact ⟨h.1, k _ S M _ H h.2 .refl w (.str _)⟩
  · obtain ⟨xs, ys, h1, h2, hl, p⟩ := h
    obtain ⟨a, vs, rfl, ha, hs⟩ := ls_get w hx h1
    obtain ⟨b, ws, rfl, hb, ht⟩ := ls_get w hy h2
    exact rAddU_l ha hb (by rw [hs.length, ht.length]; exact hl) fun r nr => k _ S M _ _ p (.new nr) (w.new nr) (.lst (w.ns nr) upd_same ((hs.append ht).sm (Same.new nr)))⟩
/-- a value made of two numbers -/
class VD (f : Int → Int → V) (g : outParam (Int → Int → D)) : Prop where
  run : ∀ S H i j, Dt S H (f i j) (g i j)
instance vd_int {f : Int → Int → Int} : VD (fun i j => .int (f i j)) (fun i j => .int (f i j)) := ⟨fun _ _ _ _ => .int _⟩
instance vd_bl {f : Int → Int → Bool} : VD (fun i j => .bl (f i j)) (fun i j => .bl (f i j)) := ⟨fun _ _ _ _ => .bl _⟩
def rI1 (f : Int → Int → D) : DR := fun x y M P => ∃ i j, x = .int i ∧ y = .int j ∧ P (f i j) M
instance op_I1 {f : Int → Int → V} {g : Int → Int → D} [F : VD f g] : OpD (rI0 f) (V.rI1 g) := ⟨fun S M H x y dx dy P Q w hx hy h k => by
  obtain ⟨i, j, rfl, rfl, p⟩ := h
  cases hx; cases hy
  exact ⟨i, j, rfl, rfl, k _ S M _ H p .refl w (F.run S H i j)⟩⟩
def rLt1 : DR := fun x y M P => match x, y with
  | .int i, .int j => P (.bl (decide (i < j))) M
  | .str i, .str j => P (.bl (decide (i.cps.toList < j.cps.toList))) M
  | _, _ => False
instance op_lt1 : OpD rLtU rLt1 := ⟨fun S M H x y dx dy P Q w hx hy h k => by
  unfold rLt1 at h
  split at h
  · cases hx; cases hy; exact k _ S M _ H h .refl w (.bl _)
  · cases hx; cases hy; exact k _ S M _ H h .refl w (.bl _)
  · exact h.elim⟩
def isNon : D → Bool
  | .non => true
  | _ => false
theorem isNon_V {S : Addr → Prop} {H : Hp} {x : V} {d : D} (h : Dt S H x d) : decide (x = V.non) = isNon d := by cases h <;> simp [isNon]
def rIsN1 : DR := fun x y M P => y = .non ∧ P (.bl (isNon x)) M
def rNotN1 : DR := fun x y M P => y = .non ∧ P (.bl (!isNon x)) M
instance op_isN1' : OpD rIsN rIsN1 := ⟨fun S M H x y dx dy P Q w hx hy h k => by
  obtain ⟨rfl, p⟩ := h
  cases hy
  refine ⟨rfl, ?_⟩
  rw [isNon_V hx]
  exact k _ S M _ H p .refl w (.bl _)⟩
instance op_notN1' : OpD rNotN rNotN1 := ⟨fun S M H x y dx dy P Q w hx hy h k => by
  obtain ⟨rfl, p⟩ := h
  cases hy
  refine ⟨rfl, ?_⟩
  rw [isNon_V hx]
  exact k _ S M _ H p .refl w (.bl _)⟩
def rIsB1 : DR := fun x y M P => ∃ a b, x = .bl a ∧ y = .bl b ∧ P (.bl (decide (a = b))) M
def rNotB1 : DR := fun x y M P => ∃ a b, x = .bl a ∧ y = .bl b ∧ P (.bl (!decide (a = b))) M
def flatD : D → Bool
  | .non => true
  | .bl _ => true
  | .int _ => true
  | .str _ => true
  | _ => false
section
variable {S : Addr → Prop} {H : Hp}
theorem flat_V {v : V} {d : D} (h : Dt S H v d) (f : flatD d = true) : flatV v = true := by
  cases h <;> first | rfl | cases f
theorem flats_V : ∀ {vs : List V} {ds : List D}, DtA S H vs ds → ds.all flatD = true → vs.all flatV = true
  | _, _, .nil, _ => rfl
  | _, _, .cons h t, f => by
    rw [List.all_cons, Bool.and_eq_true] at f
    rw [List.all_cons, flat_V h f.1, flats_V t f.2]
    rfl
theorem eqV_D {v u : V} {d e : D} (h : Dt S H v d) (k : Dt S H u e) (f : flatD d = true) (g : flatD e = true) : eqV v u = D.eqb d e := by
  cases h <;> first | (cases f; done) | (cases k <;> first | (cases g; done) | (first | rfl | (rw [D.eqb] <;> first | rfl | simp [eqV])))
theorem inV_D {v : V} {d : D} (h : Dt S H v d) (f : flatD d = true) : ∀ {vs : List V} {ds : List D}, DtA S H vs ds → ds.all flatD = true → inV v vs = ds.any fun e => D.eqb e d
  | _, _, .nil, _ => rfl
  | _, _, .cons h1 t, g => by
    rw [List.all_cons, Bool.and_eq_true] at g
    show (eqV _ v || inV v _) = _
    rw [List.any_cons, inV_D h f t g.2, eqV_D h1 h g.1 f]
end
def inR (M : Mem) (x y : D) (P : Bool → Prop) : Prop := match y with
  | .str z => ∃ c, x = .str (one c) ∧ P (decide (c ∈ cd z))
  | y => ∃ ys, isSq M y ys ∧ flatD x = true ∧ ys.all flatD = true ∧ P (ys.any fun e => D.eqb e x)
def rIn1 : DR := fun x y M P => inR M x y fun b => P (.bl b) M
def rNin1 : DR := fun x y M P => inR M x y fun b => P (.bl (!b)) M
theorem inR_go {S : Addr → Prop} {M : Mem} {H : Hp} {K : PySem.W.Frag} (w : Wo S M H) {x y : V} {dx dy : D} {P : Bool → Prop} (hx : Dt S H x dx) (hy : Dt S H y dy) (h : inR M dx dy P) :
    (∃ z c, y = .str z ∧ x = .str ⟨#[c]⟩ ∧ P (decide (c ∈ z.cps.toList))) ∨ ∃ p xs, y = .ref p ∧ (SqL K H p xs ∨ SqT K H p xs) ∧ flatV x = true ∧ xs.all flatV = true ∧ P (inV x xs) := by
  unfold inR at h
  split at h
  · rename_i z
    obtain ⟨c, rfl, p⟩ := h
    cases hx; cases hy
    exact .inl ⟨z, c, rfl, rfl, p⟩
  · obtain ⟨ys, hs, f, g, p⟩ := h
    obtain ⟨a, vs, rfl, ha, hv⟩ := sq_get w hy hs
    refine .inr ⟨a, vs, rfl, ?_, flat_V hx f, flats_V hv g, by rw [inV_D hx f hv g]; exact p⟩
    rcases ha with ha | ha
    · exact .inl (SqL.of ha)
    · exact .inr (Or.inl ha)
instance op_in1 {K : PySem.W.Frag} : OpD (rInU K) rIn1 := ⟨fun S M H x y dx dy P Q w hx hy h k => by
  rcases inR_go (K := K) w hx hy h with ⟨z, c, rfl, rfl, p⟩ | ⟨a, xs, rfl, h1, h2, h3, p⟩
  · exact ⟨c, rfl, k _ S M _ H p .refl w (.bl _)⟩
  · exact ⟨xs, h1, h2, h3, k _ S M _ H p .refl w (.bl _)⟩⟩
instance op_nin1 {K : PySem.W.Frag} : OpD (rNinU K) rNin1 := ⟨fun S M H x y dx dy P Q w hx hy h k => by
  rcases inR_go (K := K) w hx hy h with ⟨z, c, rfl, rfl, p⟩ | ⟨a, xs, rfl, h1, h2, h3, p⟩
  · exact ⟨c, rfl, k _ S M _ H p .refl w (.bl _)⟩
  · exact ⟨xs, h1, h2, h3, k _ S M _ H p .refl w (.bl _)⟩⟩
/-- in a tuple of texts that the module keeps -/
def rInKT (l : List Str) (a : Addr) (neg : Bool) : R2 := fun x y H Q => y = .ref a ∧ ∃ z, x = .str z ∧ Q (.bl (decide (z ∈ l) != neg)) H
theorem inV_strs (x : Str) : ∀ l : List Str, inV (.str x) (l.map V.str) = decide (x ∈ l)
  | [] => rfl
  | y :: l => by
    show (eqV (.str y) (.str x) || inV (.str x) (l.map V.str)) = _
    rw [inV_strs x l]
    show ((y == x) || decide (x ∈ l)) = _
    rw [Bool.eq_iff_iff]
    simp only [Bool.or_eq_true, beq_iff_eq, decide_eq_true_eq, List.mem_cons]
    exact ⟨fun h => h.elim (fun h => .inl h.symm) .inr, fun h => h.elim (fun h => .inl h.symm) .inr⟩
theorem flatV_strs (l : List Str) : (l.map V.str).all flatV = true := by
  rw [List.all_eq_true]
  intro x h
  obtain ⟨y, _, rfl⟩ := List.mem_map.mp h
  rfl
theorem op_ninKT {X : Cx} {l : List Str} {a : Addr} (h : ∀ H : Hp, SqT X.K H a (l.map V.str)) : OpR X (compareOp .NotIn) (rInKT l a true) := by
  intro pins s σ H x y v u Q I rx ry q
  obtain ⟨rfl, z, rfl, q⟩ := q
  refine op_notIn_seq pins s σ H _ _ v u Q I rx ry ⟨a, _, rfl, .inr (h H), rfl, flatV_strs l, ?_⟩
  rw [inV_strs]
  simpa using q
def rInKT1 (l : List Str) (a : Addr) (neg : Bool) : DR := fun x y M P => y = .ptr a ∧ ∃ z, x = .str z ∧ P (.bl (decide (z ∈ l) != neg)) M
instance op_inKT1 {l : List Str} {a : Addr} {neg : Bool} : OpD (rInKT l a neg) (rInKT1 l a neg) := ⟨fun S M H x y dx dy P Q w hx hy h k => by
  obtain ⟨rfl, z, rfl, p⟩ := h
  cases hx; cases hy
  exact ⟨rfl, z, rfl, k _ S M _ H p .refl w (.bl _)⟩⟩
def rIx1 : DR := fun x y M P => match x, y with
  | .str z, .int i => ∃ c, z.length ≤ sizeLine ∧ atI (cd z) i = some c ∧ P (.str (one c)) M
  | x, .int i => ∃ xs d, isSq M x xs ∧ atI xs i = some d ∧ P d M
  | _, _ => False
theorem at_dt {S : Addr → Prop} {H : Hp} {vs : List V} {ds : List D} (h : DtA S H vs ds) {i : Int} {d : D} (e : atI ds i = some d) : ∃ v, atI vs i = some v ∧ Dt S H v d := by
  unfold atI at e ⊢
  rw [h.length]
  cases hi : ixN ds.length i with
  | none => rw [hi] at e; cases e
  | some j =>
    rw [hi] at e
    exact h.get e
instance op_ix1 {K : PySem.W.Frag} : OpD (rIxU K) rIx1 := ⟨fun S M H x y dx dy P Q w hx hy h k => by
  unfold rIx1 at h
  split at h
  · obtain ⟨c, h1, h2, p⟩ := h
    cases hx; cases hy
    exact ⟨c, h1, h2, k _ S M _ H p .refl w (.str _)⟩
  · obtain ⟨xs, d, h1, h2, p⟩ := h
    cases hy
    obtain ⟨a, vs, rfl, ha, hv⟩ := sq_get w hx h1
    obtain ⟨v, e, hd⟩ := at_dt hv h2
    refine ⟨vs, v, ?_, e, k _ S M _ H p .refl w hd⟩
    rcases ha with ha | ha
    · exact .inl (SqL.of ha)
    · exact .inr (Or.inl ha)
  · exact h.elim⟩
theorem dtA_rep {S : Addr → Prop} {H : Hp} {vs : List V} {ds : List D} (h : DtA S H vs ds) : ∀ n, DtA S H (List.replicate n vs).flatten (List.replicate n ds).flatten
  | 0 => .nil
  | n + 1 => by
    rw [List.replicate_succ, List.replicate_succ, List.flatten_cons, List.flatten_cons]
    exact h.append (dtA_rep h n)
def rRep1 : DR := fun x y M P => ∃ xs k, isLs M x xs ∧ y = .int k ∧ -(2 ^ 63) ≤ k ∧ k < 2 ^ 63 ∧ xs.length * k.toNat ≤ sizeLine ∧ P (.lst (List.replicate k.toNat xs).flatten) M
instance op_rep1 : OpD rRep rRep1 := ⟨fun S M H x y dx dy P Q w hx hy h k => by
  obtain ⟨xs, j, h1, rfl, h2, h3, h4, p⟩ := h
  cases hy
  obtain ⟨a, vs, rfl, ha, hv⟩ := ls_get w hx h1
  exact ⟨a, j, vs, rfl, rfl, ha, h2, h3, by rw [hv.length]; exact h4, fun q nq => k _ S M _ _ p (.new nq) (w.new nq) (.lst (w.ns nq) upd_same ((dtA_rep hv _).sm (Same.new nq)))⟩⟩
end V
namespace V
open PySem PySem.Spec PyProof.Rows L2 U StX
def cutG {α : Type} (xs : List α) (lo hi : Option Int) : List α := (xs.drop (HT.sIx xs.length 0 lo)).take (HT.sIx xs.length xs.length hi - HT.sIx xs.length 0 lo)
def rSlZ (K : PySem.W.Frag) : V → Option Int → Option Int → Hp → VK → Prop := fun x lo hi H Q => match x with
  | .str z => z.length ≤ sizeLine ∧ Q (.str (cutS z lo hi)) H
  | x => rSlA K x lo hi H Q ∨ rSlL K x lo hi H Q
theorem sl_Z {X : Cx} {K : PySem.W.Frag} (h : X.K = K) : SlR X (rSlZ K) := by
  subst h
  intro pins s σ H x v vl vu lo hi sl Q I rx hs pl pu h
  cases x with
  | str z => exact sl_str pins s σ H _ v vl vu lo hi sl Q I rx hs pl pu ⟨z, rfl, h.1, h.2⟩
  | _ =>
    rcases h with h | h
    · exact sl_tupA pins s σ H _ v vl vu lo hi sl Q I rx hs pl pu h
    · exact sl_list pins s σ H _ v vl vu lo hi sl Q I rx hs pl pu h
abbrev DO := Dl → Mem → (Option Int → Mem → Prop) → Prop
class PuO (t : TO) (dt : outParam DO) : Prop where
  run : ∀ S M σ δ H (P : Option Int → Mem → Prop) (Q : Option Int → Hp → Prop), Wo S M H → En S H σ δ → dt δ M P → (∀ o S' M' H', P o M' → Step S M H S' M' H' → Wo S' M' H' → Q o H') → t σ H Q
def dNoPart : DO := fun _ M P => P none M
def dPart (a : DE) : DO := fun δ M P => a δ M fun x M1 => ∃ i, x = .int i ∧ P (some i) M1
instance pu_noPart : PuO tNoPart dNoPart := ⟨fun S M σ δ H P Q w e h k => k none S M H h .refl w⟩
instance pu_part {ta : TE} {da : DE} [A : PuE ta da] : PuO (tPart ta) (dPart da) := ⟨fun S M σ δ H P Q w e h k =>
  A.run S M σ δ H _ _ w e h fun d S1 M1 v H1 p1 t1 w1 h1 => by
    obtain ⟨i, rfl, p1⟩ := p1
    cases h1
    exact ⟨i, rfl, k _ S1 M1 H1 p1 t1 w1⟩⟩
def rSl1 (x : D) (lo hi : Option Int) (M : Mem) (P : QD) : Prop := match x with
  | .str z => z.length ≤ sizeLine ∧ P (.str (cutS z lo hi)) M
  | .tup xs => P (.tup (cutG xs lo hi)) M
  | x => ∃ xs, isLs M x xs ∧ P (.lst (cutG xs lo hi)) M
def dSl (a : DE) (l h : DO) : DE := fun δ M P => a δ M fun x M1 => l δ M1 fun lo M2 => h δ M2 fun hi M3 => rSl1 x lo hi M3 P
theorem dtA_cut {S : Addr → Prop} {H : Hp} {vs : List V} {ds : List D} (h : DtA S H vs ds) (lo hi : Option Int) : DtA S H (cutV vs lo hi) (cutG ds lo hi) := by
  unfold cutV cutG
  rw [h.length]
  exact (h.drop _).take _
theorem cutG_whole {α : Type} {xs : List α} {lo hi : Option Int} (h : HT.sIx xs.length 0 lo = 0 ∧ HT.sIx xs.length xs.length hi = xs.length) : cutG xs lo hi = xs := by
  unfold cutG
  rw [h.1, h.2, List.drop_zero, Nat.sub_zero, List.take_length]
instance pu_sl {K : PySem.W.Frag} {ta : TE} {tl th : TO} {da : DE} {dl dh : DO} [A : PuE ta da] [B : PuO tl dl] [C : PuO th dh] : PuE (tSl (rSlZ K) ta tl th) (dSl da dl dh) := ⟨fun S M σ δ H P Q w e h k =>
  A.run S M σ δ H _ _ w e h fun d S1 M1 v H1 p1 t1 w1 h1 =>
    B.run S1 M1 σ δ H1 _ _ w1 (e.step w t1) p1 fun lo S2 M2 H2 p2 t2 w2 =>
      C.run S2 M2 σ δ H2 _ _ w2 (e.step w (t1.trans t2)) p2 fun hi S3 M3 H3 p3 t3 w3 => by
        have h3 := dt_step w1 (t2.trans t3) _ h1
        have k3 := k.go ((t1.trans t2).trans t3)
        unfold rSl1 at p3
        split at p3
        · cases h3
          exact ⟨p3.1, k3 _ S3 M3 _ H3 p3.2 .refl w3 (.str _)⟩
        · rename_i xs
          cases h3 with
          | @tup a vs _ n ha hs =>
            have el := hs.length
            refine .inl ⟨a, vs, rfl, SqT.of ha, fun c => ?_, fun c p np => ?_⟩
            · rw [el] at c
              rw [cutG_whole c] at p3
              exact k3 _ S3 M3 _ H3 p3 .refl w3 (.tup n ha hs)
            · exact k3 _ S3 M3 _ _ p3 (.new np) (w3.new np) (.tup (w3.ns np) upd_same ((dtA_cut hs lo hi).sm (Same.new np)))
        · obtain ⟨xs, h4, p3⟩ := p3
          obtain ⟨a, vs, rfl, ha, hs⟩ := ls_get w3 h3 h4
          exact .inr ⟨a, vs, rfl, SqL.of ha, fun p np => k3 _ S3 M3 _ _ p3 (.new np) (w3.new np) (.lst (w3.ns np) upd_same ((dtA_cut hs lo hi).sm (Same.new np)))⟩⟩
def dRevL (a : DE) : DE := fun δ M P => a δ M fun x M1 => ∃ xs, isLs M1 x xs ∧ P (.lst xs.reverse) M1
def lkD : List Str → List D → Str → Option D
  | n :: ns, d :: ds, f => if f = n then some d else lkD ns ds f
  | _, _, _ => none
theorem lk_get {S : Addr → Prop} {H : Hp} {f : Str} {d : D} : ∀ {fs : List (Str × V)} {ns : List Str} {ds : List D}, fs.map (·.1) = ns → DtA S H (fs.map (·.2)) ds → lkD ns ds f = some d → ∃ v, fs.lookup f = some v ∧ Dt S H v d
  | [], [], [], _, _, h => by cases h
  | (n, v) :: fs, m :: ns, d' :: ds, e, .cons h1 t, h => by
    rw [List.map_cons, List.cons.injEq] at e
    obtain ⟨rfl, e⟩ := e
    unfold lkD at h
    by_cases c : f = n
    · rw [if_pos c] at h
      cases h
      refine ⟨v, ?_, h1⟩
      subst c
      simp
    · rw [if_neg c] at h
      obtain ⟨u, h2, h3⟩ := lk_get e t h
      refine ⟨u, ?_, h3⟩
      rw [List.lookup_cons]
      have : (f == n) = false := by simpa using c
      simp only [this]
      exact h2
def putD (f : Str) (d : D) : List (Str × D) → List (Str × D)
  | [] => [(f, d)]
  | (n, e) :: r => if n = f then (n, d) :: r else (n, e) :: putD f d r
/-- an instance, still or changing -/
def isIn (M : Mem) (x : D) (C : Addr) (ns : List Str) (ds : List D) : Prop := x = .ins C ns ds ∨ ∃ a fs, x = .ptr a ∧ M a = some (.ins C fs) ∧ ns = fs.map (·.1) ∧ ds = fs.map (·.2)
theorem in_get {S : Addr → Prop} {M : Mem} {H : Hp} (w : Wo S M H) {v : V} {x : D} {C : Addr} {ns : List Str} {ds : List D} (h : Dt S H v x) (e : isIn M x C ns ds) : ∃ a dx fs, v = .ref a ∧ H a = some (.ins C dx fs) ∧ fs.map (·.1) = ns ∧ DtA S H (fs.map (·.2)) ds := by
  rcases e with rfl | ⟨a, fs, rfl, e, rfl, rfl⟩
  · cases h with
    | ins n ha hn hs => exact ⟨_, _, _, rfl, ha, hn, hs⟩
  · cases h
    obtain ⟨_, dx, gs, h1, h2, h3⟩ := w.mem a _ e
    exact ⟨a, dx, gs, rfl, h1, h2, h3⟩
theorem lk_of {f : Str} {d : D} : ∀ {ns : List Str} {ds : List D} {k : Nat}, ns.Nodup → ns[k]? = some f → ds[k]? = some d → lkD ns ds f = some d
  | [], _, k, _, h, _ => by simp at h
  | n :: ns, [], k, _, _, h => by simp at h
  | n :: ns, e :: ds, 0, nd, h, h2 => by
    simp at h h2
    subst h
    subst h2
    unfold lkD
    rw [if_pos rfl]
  | n :: ns, e :: ds, k + 1, nd, h, h2 => by
    rw [List.getElem?_cons_succ] at h h2
    have hn := List.nodup_cons.mp nd
    have : f ≠ n := fun z => hn.1 (by rw [← z]; exact List.mem_of_getElem? h)
    unfold lkD
    rw [if_neg this]
    exact lk_of hn.2 h h2
def rFld1 (K : PySem.W.Frag) (f : Str) (x : D) (M : Mem) (P : QD) : Prop := ∃ C ns ds d, isIn M x C ns ds ∧ Cls K C ∧ NoAttr K C f ∧ (∃ k : Nat, ns.Nodup ∧ ns[k]? = some f ∧ ds[k]? = some d) ∧ P d M
def dFld (K : PySem.W.Frag) (a : DE) (f : Str) : DE := fun δ M P => a δ M fun x M1 => rFld1 K f x M1 P
instance pu_fld {K : PySem.W.Frag} {ta : TE} {da : DE} {f : Str} [A : PuE ta da] : PuE (tFld K ta f) (dFld K da f) := ⟨fun S M σ δ H P Q w e h k =>
  A.run S M σ δ H _ _ w e h fun d S1 M1 v H1 p1 t1 w1 h1 => by
    obtain ⟨C, ns, ds, d, h2, c, n, ⟨_, l1, l2, l3⟩, p1⟩ := p1
    obtain ⟨a, dx, fs, rfl, ha, hn, hs⟩ := in_get w1 h1 h2
    obtain ⟨v, hv, hd⟩ := lk_get hn hs (lk_of l1 l2 l3)
    exact ⟨a, C, dx, fs, v, rfl, ha, c, n, hv, k _ S1 M1 _ H1 p1 t1 w1 hd⟩⟩
def lenR (M : Mem) (d : D) (P : Int → Prop) : Prop := match d with
  | .str z => z.length ≤ sizeLine ∧ P z.length
  | x => ∃ xs, isSq M x xs ∧ P xs.length
def rLen1 : DC := fun ds M P => ∃ d, ds = [d] ∧ lenR M d fun i => P (.int i) M
instance cb_len {K : PySem.W.Frag} : CbD (rLenU K) rLen1 := ⟨fun S M H vs ds P Q w hv h k => by
  obtain ⟨d, rfl, h⟩ := h
  match hv with
  | .cons h1 .nil =>
    unfold V.lenR at h
    split at h
    · cases h1
      exact ⟨h.1, k _ S M _ H h.2 .refl w (.int _)⟩
    · obtain ⟨xs, h2, p⟩ := h
      obtain ⟨a, us, rfl, ha, hs⟩ := sq_get w h1 h2
      refine ⟨us, ?_, ?_⟩
      · rcases ha with ha | ha
        · exact .inl (SqL.of ha)
        · exact .inr (Or.inl ha)
      · rw [hs.length]
        exact k _ S M _ H p .refl w (.int _)⟩
def rAll1 : DC := fun ds M P => ∃ (x : D) (bs : List Bool), ds = [x] ∧ isLs M x (bs.map D.bl) ∧ P (.bl (bs.all id)) M
instance cb_all {K : PySem.W.Frag} : CbD (rAll K) rAll1 := ⟨fun S M H vs ds P Q w hv h k => by
  obtain ⟨x, bs, rfl, h2, p⟩ := h
  match hv with
  | .cons h1 .nil =>
    obtain ⟨a, us, rfl, ha, hs⟩ := ls_get w h1 h2
    have e := hs.bls_eq
    subst e
    exact ⟨a, bs, rfl, SqL.of ha, k _ S M _ H p .refl w (.bl _)⟩⟩
def rI11 (g : Int → D) : DC := fun ds M P => ∃ i, ds = [.int i] ∧ P (g i) M
def rI21 (g : Int → Int → D) : DC := fun ds M P => ∃ i j, ds = [.int i, .int j] ∧ P (g i j) M
instance cb_I2 {f : Int → Int → V} {g : Int → Int → D} [F : VD f g] : CbD (rI2 f) (rI21 g) := ⟨fun S M H vs ds P Q w hv h k => by
  obtain ⟨i, j, rfl, p⟩ := h
  match hv with
  | .cons h1 (.cons h2 .nil) =>
    cases h1
    cases h2
    exact k _ S M _ H p .refl w (F.run S H i j)⟩
def dNeg (a : DE) : DE := fun δ M P => a δ M fun x M1 => ∃ i, x = .int i ∧ P (.int (-i)) M1
instance pu_neg {ta : TE} {da : DE} [A : PuE ta da] : PuE (tUn (rU fun i => .int (-i)) ta) (dNeg da) := ⟨fun S M σ δ H P Q w e h k =>
  A.run S M σ δ H _ _ w e h fun d S1 M1 v H1 p1 t1 w1 h1 => by
    obtain ⟨i, rfl, p1⟩ := p1
    cases h1
    exact ⟨i, rfl, k _ S1 M1 _ H1 p1 t1 w1 (.int _)⟩⟩
def listR (M : Mem) (d : D) (P : List D → Prop) : Prop := match d with
  | .str z => z.length ≤ sizeLine ∧ P ((cd z).map sgn)
  | x => ∃ xs, isSq M x xs ∧ P xs
def rList1 : DC := fun ds M P => ∃ d, ds = [d] ∧ listR M d fun xs => P (.lst xs) M
/-- str(n) -/
def rStr1 : List V → Hp → VK → Prop := fun xs H Q => ∃ i, xs = [.int i] ∧ i.natAbs.log2 < 1920 ∧ Q (.str (toString i)) H
theorem call_str1 {X : Cx} : CallR X (.type "str") rStr1 := call_str_int
def rStrD : DC := fun ds M P => ∃ i, ds = [.int i] ∧ i.natAbs.log2 < 1920 ∧ P (.str (Str.ofString (toString i))) M
instance cb_str : CbD rStr1 rStrD := ⟨fun S M H vs ds P Q w hv h k => by
  obtain ⟨i, rfl, hl, p⟩ := h
  match hv with
  | .cons h1 .nil =>
    cases h1
    exact ⟨i, rfl, hl, k _ S M _ H p .refl w (.str _)⟩⟩
/-- tuple(x) -/
def kTup1 (x : D) (M : Mem) (P : QD) : Prop := ∃ xs, (x = .lst xs ∨ x = .tup xs ∨ ∃ a, x = .ptr a ∧ M a = some (.lst xs)) ∧ P (.tup xs) M
instance pu_tupOf {K : PySem.W.Frag} {ta : TE} {da : DE} [A : PuE ta da] : PuE (tThen ta (kTup K)) (dThen da kTup1) := ⟨fun S M σ δ H P Q w e h k =>
  A.run S M σ δ H _ _ w e h fun d S1 M1 v H1 p1 t1 w1 h1 => by
    obtain ⟨xs, h2, p1⟩ := p1
    rcases h2 with rfl | rfl | ⟨a, rfl, h2⟩
    · cases h1 with
      | lst n ha hs => exact .inl ⟨_, _, rfl, SqL.of ha, fun p np => k _ S1 M1 _ _ p1 (t1.trans (.new np)) (w1.new np) (.tup (w1.ns np) upd_same (hs.sm (Same.new np)))⟩
    · cases h1 with
      | tup n ha hs => exact .inr ⟨_, _, rfl, SqT.of ha, k _ S1 M1 _ _ p1 t1 w1 (.tup n ha hs)⟩
    · cases h1
      obtain ⟨_, vs, ha, hs⟩ := w1.mem a _ h2
      exact .inl ⟨_, _, rfl, SqL.of ha, fun p np => k _ S1 M1 _ _ p1 (t1.trans (.new np)) (w1.new np) (.tup (w1.ns np) upd_same (hs.sm (Same.new np)))⟩⟩
abbrev DRg := Dl → Mem → (Int → Int → Mem → Prop) → Prop
def dRg1 (a : DE) : DRg := fun δ M P => a δ M fun x M1 => ∃ n, x = .int n ∧ P 0 n M1
def dRg2 (a b : DE) : DRg := fun δ M P => a δ M fun x M1 => b δ M1 fun y M2 => ∃ i j, x = .int i ∧ y = .int j ∧ P i j M2
def rgD (i j : Int) : List D := (List.range (j - i).toNat).map fun k => D.int (i + (k : Nat))
def dLstRg (t : DRg) : DE := fun δ M P => t δ M fun a b M1 => RgOk a b ∧ P (.lst (rgD a b)) M1
/-- isinstance(x, C): what is known of x's class -/
inductive TyD (K : PySem.W.Frag) (M : Mem) : D → Value → Prop where
  | non : TyD K M .non (.type "NoneType")
  | bl (b : Bool) : TyD K M (.bl b) (.type "bool")
  | int (i : Int) : TyD K M (.int i) (.type "int")
  | str (x : Str) : TyD K M (.str x) (.type "str")
  | lst (xs : List D) : TyD K M (.lst xs) (.type "list")
  | tup (xs : List D) : TyD K M (.tup xs) (.type "tuple")
  | ftp (xs : List D) : TyD K M (.ftp xs) (.type "tuple")
  | emp (a : Addr) : TyD K M (.opq a (.dK [])) (.type "dict")
  | mlst {a : Addr} {xs : List D} (h : M a = some (.lst xs)) : TyD K M (.ptr a) (.type "list")
  | mdic {a : Addr} {xs : List (Key × D)} (h : M a = some (.dic xs)) : TyD K M (.ptr a) (.type "dict")
  | ins {C : Addr} {x : D} {ns : List Str} {xs : List D} (h : isIn M x C ns xs) (c : C8.InsC K C) : TyD K M x (.ref C)
def rIsi1 (K : PySem.W.Frag) : DC := fun ds M P => match ds with
  | [x, .ty n] => ∃ t b, TyD K M x t ∧ PySem.W.kitOne K t (.type n) = some b ∧ P (.bl b) M
  | [x, .ptr C] => ∃ t b, TyD K M x t ∧ PySem.W.kitOne K t (.ref C) = some b ∧ P (.bl b) M
  | _ => False
theorem tyD_go {S : Addr → Prop} {M : Mem} {H : Hp} {K : PySem.W.Frag} (w : Wo S M H) {v : V} {x : D} {t : Value} (h : Dt S H v x) (ty : TyD K M x t) : TyX K H v t := by
  cases ty with
  | non => cases h; exact .base .non
  | bl b => cases h; exact .base (.bl _)
  | int b => cases h; exact .base (.int _)
  | str b => cases h; exact .base (.str _)
  | lst xs => cases h with
    | lst n ha hs => exact .base (.lst ha)
  | tup xs => cases h with
    | tup n ha hs => exact .base (.tup ha)
  | ftp xs => cases h with
    | ftp n ha hd hs => exact .fTuple ha
  | emp a => cases h with
    | opq n ha => exact .base (.dK ha)
  | mlst hm =>
    cases h
    obtain ⟨_, vs, ha, _⟩ := w.mem _ _ hm
    exact .base (.lst ha)
  | mdic hm =>
    cases h
    obtain ⟨_, vs, ha, _⟩ := w.mem _ _ hm
    exact .base (.dK ha)
  | ins hi c =>
    obtain ⟨a, dx, fs, rfl, ha, _, _⟩ := in_get w h hi
    exact .base (.ins ha c.cl c.ha c.hn c.htk c.hm)
instance cb_isi {K : PySem.W.Frag} : CbD (rIsi K) (rIsi1 K) := ⟨fun S M H vs ds P Q w hv h k => by
  unfold rIsi1 at h
  split at h
  · obtain ⟨t, b, ty, e, p⟩ := h
    match hv with
    | .cons h1 (.cons h2 .nil) =>
      cases h2
      exact ⟨_, _, t, _, b, rfl, .ty _, tyD_go w h1 ty, e, k _ S M _ H p .refl w (.bl _)⟩
  · obtain ⟨t, b, ty, e, p⟩ := h
    match hv with
    | .cons h1 (.cons h2 .nil) =>
      cases h2
      exact ⟨_, _, t, _, b, rfl, .own _, tyD_go w h1 ty, e, k _ S M _ H p .refl w (.bl _)⟩
  · exact h.elim⟩
/-- sep.join(xs) -/
def rJoin1 (x y : D) (M : Mem) (P : QD) : Prop := ∃ a, ∃ ys : List Str, x = .str a ∧ isSq M y (ys.map D.str) ∧ (ys.map (·.length)).sum + ys.length * a.length ≤ 16777216 ∧ P (.str (Txt.join a ys)) M
def dJoin1 (a b : DE) : DE := fun δ M P => a δ M fun x M1 => (∃ z, x = .str z) ∧ b δ M1 fun y M2 => rJoin1 x y M2 P
def dAppend (a : DE) (b : DA) : DE := fun δ M P => a δ M fun x M1 => ∃ l, x = .ptr l ∧ (∃ xs, M1 l = some (.lst xs)) ∧ b δ M1 fun ys M2 => ∃ xs y, ys = [y] ∧ M2 l = some (.lst xs) ∧ xs.length < sizeLine ∧ P .non (mset M2 l (.lst (xs ++ [y])))
def dFmt (a : DE) : DE := fun δ M P => a δ M fun x M1 => match x with
  | .str y => y.length ≤ sizeLine ∧ P (.str y) M1
  | .int i => i.natAbs.log2 < 1920 ∧ P (.str (Str.ofString (toString i))) M1
  | _ => False
instance pu_fmt {ta : TE} {da : DE} [A : PuE ta da] : PuE (tFmt ta) (dFmt da) := ⟨fun S M σ δ H P Q w e h k =>
  A.run S M σ δ H _ _ w e h fun d S1 M1 v H1 p1 t1 w1 h1 => by
    split at p1
    · cases h1
      exact .inl ⟨_, rfl, p1.1, k _ S1 M1 _ H1 p1.2 t1 w1 (.str _)⟩
    · cases h1
      exact .inr ⟨_, rfl, p1.1, k _ S1 M1 _ H1 p1.2 t1 w1 (.str _)⟩
    · exact p1.elim⟩
def tJoin (ts : List TE) : TE := fun σ H Q => tJs ts Str.empty σ H fun out H1 => Q (.str out) H1
theorem pe_joinedD {X : Cx} {v1 v2 : Expr} {rest : List Expr} {ts : List TE} {pos : Pos} (h : PJ X (v1 :: v2 :: rest) ts) : PE X (.JoinedStr (v1 :: v2 :: rest) pos) (tJoin ts) := pe_joined h
def dJs : List DE → Str → Dl → Mem → (Str → Mem → Prop) → Prop
  | [], acc, _, M, P => P acc M
  | d :: ds, acc, δ, M, P => d δ M fun x M1 => ∃ y : Str, x = .str y ∧ (acc ++ y).length ≤ sizeLine ∧ dJs ds (acc ++ y) δ M1 P
class PuJ (ts : List TE) (ds : outParam (List DE)) : Prop where
  run : ∀ S M σ δ H acc (P : Str → Mem → Prop) (Q : Str → Hp → Prop), Wo S M H → En S H σ δ → dJs ds acc δ M P → (∀ o S' M' H', P o M' → Step S M H S' M' H' → Wo S' M' H' → Q o H') → tJs ts acc σ H Q
instance pu_j0 : PuJ [] [] := ⟨fun S M σ δ H acc P Q w e h k => k _ S M H h .refl w⟩
instance pu_j1 {t : TE} {ts : List TE} {d : DE} {ds : List DE} [A : PuE t d] [B : PuJ ts ds] : PuJ (t :: ts) (d :: ds) := ⟨fun S M σ δ H acc P Q w e h k =>
  A.run S M σ δ H _ _ w e h fun d S1 M1 v H1 p1 t1 w1 h1 => by
    obtain ⟨y, rfl, hz, p1⟩ := p1
    cases h1
    exact ⟨y, rfl, hz, B.run S1 M1 σ δ H1 _ P Q w1 (e.step w t1) p1 fun o S2 M2 H2 p2 t2 w2 => k o S2 M2 H2 p2 (t1.trans t2) w2⟩⟩
def dJoin (ds : List DE) : DE := fun δ M P => dJs ds Str.empty δ M fun out M1 => P (.str out) M1
instance pu_joined {ts : List TE} {ds : List DE} [A : PuJ ts ds] : PuE (tJoin ts) (dJoin ds) := ⟨fun S M σ δ H P Q w e h k =>
  A.run S M σ δ H _ _ _ w e h fun o S1 M1 H1 p1 t1 w1 => k _ S1 M1 _ H1 p1 t1 w1 (.str o)⟩
end V
namespace V
open PySem PySem.Spec PyProof.Rows L2 U StX
abbrev QS := Dl → Mem → Prop
abbrev DG := D → Dl → Mem → QS → Prop
abbrev DGs := List D → Dl → Mem → QS → Prop
/-- only these slots are stored -/
def Onl (sl : List Nat) (σ σ' : L2.St) : Prop := ∀ vs : List Nat, (∀ i ∈ sl, i ∈ vs) → L2.wipe σ' vs = L2.wipe σ vs
class PuG (g : TG) (dg : outParam DG) (sl : outParam (List Nat)) : Prop where
  run : ∀ S M σ δ H v d (P : QS) (R : L2.St → Hp → Prop), Wo S M H → En S H σ δ → Dt S H v d → dg d δ M P → (∀ δ' S' M' σ' H', P δ' M' → Step S M H S' M' H' → Wo S' M' H' → En S' H' σ' δ' → Onl sl σ σ' → R σ' H') → g v σ H R
class PuGs (g : TGs) (dg : outParam DGs) (sl : outParam (List Nat)) : Prop where
  run : ∀ S M σ δ H v d (P : QS) (R : L2.St → Hp → Prop), Wo S M H → En S H σ δ → DtA S H v d → dg d δ M P → (∀ δ' S' M' σ' H', P δ' M' → Step S M H S' M' H' → Wo S' M' H' → En S' H' σ' δ' → Onl sl σ σ' → R σ' H') → g v σ H R
theorem wipe_set (σ : L2.St) (i : Nat) (o : Option V) : ∀ vs : List Nat, i ∈ vs → L2.wipe (σ.set i o) vs = L2.wipe σ vs
  | v :: vs, h => by
    unfold L2.wipe
    by_cases c : i ∈ vs
    · rw [wipe_set σ i o vs c]
    · have e : i = v := (List.mem_cons.mp h).elim id fun z => (c z).elim
      subst e
      have : ∀ vs : List Nat, i ∉ vs → L2.wipe (σ.set i o) vs = (L2.wipe σ vs).set i o := by
        intro vs
        induction vs with
        | nil => intro _; rfl
        | cons w ws ih =>
          intro n
          rw [List.mem_cons, not_or] at n
          unfold L2.wipe
          rw [ih n.2, List.set_comm _ _ n.1]
      rw [this vs c, List.set_set]
def dgN (i : Nat) : DG := fun d δ M P => P (δ.set i (some d)) M
instance pu_gName {i : Nat} : PuG (gName i) (dgN i) [i] := ⟨fun S M σ δ H v d P R w e h p k => k _ S M _ H p .refl w (e.set h) fun vs hv => wipe_set _ _ _ _ (hv i (List.mem_singleton.mpr rfl))⟩
def dgsNil : DGs := fun ds δ M P => ds = [] ∧ P δ M
def dgsCons (g : DG) (r : DGs) : DGs := fun ds δ M P => ∃ d es, ds = d :: es ∧ g d δ M fun δ1 M1 => r es δ1 M1 P
instance pu_gNil : PuGs gNil dgsNil [] := ⟨fun S M σ δ H v d P R w e h p k => by
  obtain ⟨rfl, p⟩ := p
  cases h
  exact ⟨rfl, k _ S M _ H p .refl w e fun _ _ => rfl⟩⟩
instance pu_gCons {g : TG} {gs : TGs} {dg : DG} {dgs : DGs} {s1 s2 : List Nat} [A : PuG g dg s1] [B : PuGs gs dgs s2] : PuGs (gCons g gs) (dgsCons dg dgs) (s1 ++ s2) := ⟨fun S M σ δ H v d P R w e h p k => by
  obtain ⟨x, xs, rfl, p⟩ := p
  cases h with
  | cons h1 h2 =>
    refine ⟨_, _, rfl, A.run S M σ δ H _ x _ _ w e h1 p fun δ1 S1 M1 σ1 H1 p1 t1 w1 e1 o1 => ?_⟩
    refine B.run S1 M1 σ1 δ1 H1 _ xs P _ w1 e1 (dtA_step w t1 _ h2) p1 fun δ2 S2 M2 σ2 H2 p2 t2 w2 e2 o2 => k δ2 S2 M2 σ2 H2 p2 (t1.trans t2) w2 e2 fun vs hv => ?_
    rw [o2 vs fun i hi => hv i (List.mem_append_right _ hi), o1 vs fun i hi => hv i (List.mem_append_left _ hi)]⟩
def dgT (n : Nat) (g : DGs) : DG := fun d δ M P => ∃ xs, d = .tup xs ∧ xs.length = n ∧ g xs δ M P
instance pu_gTup {K : PySem.W.Frag} {n : Nat} {gs : TGs} {dgs : DGs} {s : List Nat} [A : PuGs gs dgs s] : PuG (gTup K n gs) (dgT n dgs) s := ⟨fun S M σ δ H v d P R w e h p k => by
  obtain ⟨xs, rfl, hl, p⟩ := p
  cases h with
  | tup n ha hs => exact ⟨_, _, rfl, SqT.of ha, by rw [hs.length]; exact hl, A.run S M σ δ H _ xs P R w e hs p k⟩⟩
abbrev DS := QS → QD → QS → QS → QS
structure Lk (S : Addr → Prop) (M : Mem) (H : Hp) (nx : QS) (rt : QD) (bk ct : QS) (E : Ends) : Prop where
  nx : ∀ δ' S' M' σ' H', nx δ' M' → Step S M H S' M' H' → Wo S' M' H' → En S' H' σ' δ' → E.nx σ' H'
  rt : AtE S M H rt E.rt
  bk : ∀ δ' S' M' σ' H', bk δ' M' → Step S M H S' M' H' → Wo S' M' H' → En S' H' σ' δ' → E.bk σ' H'
  ct : ∀ δ' S' M' σ' H', ct δ' M' → Step S M H S' M' H' → Wo S' M' H' → En S' H' σ' δ' → E.ct σ' H'
theorem Lk.go {S S' : Addr → Prop} {M M' : Mem} {H H' : Hp} {nx : QS} {rt : QD} {bk ct : QS} {E : Ends} (l : Lk S M H nx rt bk ct E) (t : Step S M H S' M' H') : Lk S' M' H' nx rt bk ct E :=
  ⟨fun a b c d e p t2 w f => l.nx a b c d e p (t.trans t2) w f, l.rt.go t, fun a b c d e p t2 w f => l.bk a b c d e p (t.trans t2) w f, fun a b c d e p t2 w f => l.ct a b c d e p (t.trans t2) w f⟩
class PuS (t : TS) (dt : outParam DS) : Prop where
  run : ∀ S M σ δ H nx rt bk ct (E : Ends), Wo S M H → En S H σ δ → dt nx rt bk ct δ M → Lk S M H nx rt bk ct E → t E σ H
def sNext : DS := fun nx _ _ _ δ M => nx δ M
def sSeq (a b : DS) : DS := fun nx rt bk ct δ M => a (fun δ1 M1 => b nx rt bk ct δ1 M1) rt bk ct δ M
def sBreak : DS := fun _ _ bk _ δ M => bk δ M
def sCont : DS := fun _ _ _ ct δ M => ct δ M
def sDrop (a : DE) : DS := fun nx _ _ _ δ M => a δ M fun _ M1 => nx δ M1
def sRet (a : DE) : DS := fun _ rt _ _ δ M => a δ M rt
def sRetN : DS := fun _ rt _ _ _ M => rt .non M
def sIf (c : DT) (a b : DS) : DS := fun nx rt bk ct δ M => c δ M fun k M1 => if k = true then a nx rt bk ct δ M1 else b nx rt bk ct δ M1
def sNever : DS := fun _ _ _ _ _ _ => False
def sAsg (a : DE) (g : DG) : DS := fun nx _ _ _ δ M => a δ M fun x M1 => g x δ M1 nx
def sPar (i j : Nat) (t : DA) : DS := fun nx _ _ _ δ M => t δ M fun xs M1 => ∃ x y, xs = [x, y] ∧ nx ((δ.set i (some x)).set j (some y)) M1
section
variable {t u : TS} {dt du : DS} {ta : TE} {da : DE} {c : TT} {dc : DT} {g : TG} {dg : DG}
instance pu_next : PuS tNext sNext := ⟨fun S M σ δ H nx rt bk ct E w e h l => l.nx _ S M _ H h .refl w e⟩
instance pu_seq [A : PuS t dt] [B : PuS u du] : PuS (tSeq t u) (sSeq dt du) := ⟨fun S M σ δ H nx rt bk ct E w e h l =>
  A.run S M σ δ H _ _ _ _ _ w e h ⟨fun δ1 S1 M1 σ1 H1 p1 t1 w1 e1 => B.run S1 M1 σ1 δ1 H1 nx rt bk ct E w1 e1 p1 (l.go t1), l.rt, l.bk, l.ct⟩⟩
instance pu_drop [A : PuE ta da] : PuS (tDrop ta) (sDrop da) := ⟨fun S M σ δ H nx rt bk ct E w e h l =>
  A.run S M σ δ H _ _ w e h fun d S1 M1 v H1 p1 t1 w1 h1 => l.nx _ S1 M1 _ H1 p1 t1 w1 (e.step w t1)⟩
instance pu_ret [A : PuE ta da] : PuS (tRet ta) (sRet da) := ⟨fun S M σ δ H nx rt bk ct E w e h l => A.run S M σ δ H _ _ w e h l.rt⟩
instance pu_ifS [C : PuT c dc] [A : PuS t dt] [B : PuS u du] : PuS (tIfS c t u) (sIf dc dt du) := ⟨fun S M σ δ H nx rt bk ct E w e h l =>
  C.run S M σ δ H _ _ w e h fun b S1 M1 H1 p1 t1 w1 => by
    cases b with
    | true =>
      rw [if_pos rfl] at p1 ⊢
      exact A.run S1 M1 σ δ H1 nx rt bk ct E w1 (e.step w t1) p1 (l.go t1)
    | false =>
      rw [if_neg Bool.false_ne_true] at p1 ⊢
      exact B.run S1 M1 σ δ H1 nx rt bk ct E w1 (e.step w t1) p1 (l.go t1)⟩
instance pu_never : PuS tNever sNever := ⟨fun S M σ δ H nx rt bk ct E w e h l => h.elim⟩
instance pu_asg {sl : List Nat} [A : PuE ta da] [B : PuG g dg sl] : PuS (tAsg ta g) (sAsg da dg) := ⟨fun S M σ δ H nx rt bk ct E w e h l =>
  A.run S M σ δ H _ _ w e h fun d S1 M1 v H1 p1 t1 w1 h1 =>
    B.run S1 M1 σ δ H1 v d _ _ w1 (e.step w t1) h1 p1 fun δ2 S2 M2 σ2 H2 p2 t2 w2 e2 _ => l.nx δ2 S2 M2 σ2 H2 p2 (t1.trans t2) w2 e2⟩
instance pu_par {i j : Nat} {tt : TA} {dd : DA} [A : PuA tt dd] : PuS (tPar i j tt) (sPar i j dd) := ⟨fun S M σ δ H nx rt bk ct E w e h l =>
  A.run S M σ δ H _ _ w e h fun d S1 M1 v H1 p1 t1 w1 h1 => by
    obtain ⟨x, y, rfl, p1⟩ := p1
    match v, h1 with
    | [u, v], .cons h2 (.cons h3 .nil) => exact ⟨u, v, rfl, l.nx _ S1 M1 _ H1 p1 t1 w1 (((e.step w t1).set h2).set h3)⟩⟩
end
/-- x op= e of numbers -/
class IpD (r : TIp) (rd : outParam DR) : Prop where
  run : ∀ S M H x y dx dy P Q, Wo S M H → Dt S H x dx → Dt S H y dy → rd dx dy M P → AtE S M H P Q → r x y H Q
instance ip_I {f : Int → Int → Int} : IpD (ipI f) (V.rI1 fun i j => .int (f i j)) := ⟨fun S M H x y dx dy P Q w hx hy h k => by
  obtain ⟨i, j, rfl, rfl, p⟩ := h
  cases hx; cases hy
  exact ⟨i, j, rfl, rfl, k _ S M _ H p .refl w (.int _)⟩⟩
def sAug (i : Nat) (a : DE) (r : DR) : DS := fun nx _ _ _ δ M => ∃ x, δ[i]? = some (some x) ∧ a δ M fun y M1 => r x y M1 fun z M2 => nx (δ.set i (some z)) M2
instance pu_aug {i : Nat} {ta : TE} {da : DE} {r : TIp} {rd : DR} [A : PuE ta da] [B : IpD r rd] : PuS (tAug i ta r) (sAug i da rd) := ⟨fun S M σ δ H nx rt bk ct E w e h l => by
  obtain ⟨x, hx, p⟩ := h
  obtain ⟨v, hv, hd⟩ := e.at_ i x hx
  refine ⟨v, hv, A.run S M σ δ H _ _ w e p fun d S1 M1 u H1 p1 t1 w1 h1 => ?_⟩
  exact B.run S1 M1 H1 _ _ _ _ _ _ w1 (dt_step w t1 _ hd) h1 p1 fun z S2 M2 y H2 p2 t2 w2 h2 => l.nx _ S2 M2 _ H2 p2 (t1.trans t2) w2 ((e.step w (t1.trans t2)).set h2)⟩
/-- a field of a changing instance -/
def rPut1 (K : PySem.W.Frag) (f : Str) (x y : D) (M : Mem) (P : Mem → Prop) : Prop := ∃ p C fs, x = .ptr p ∧ M p = some (.ins C fs) ∧ Cls K C ∧ NoAttr K C f ∧ fs.length < 1000 ∧ P (mset M p (.ins C (putD f y fs)))
def sFldD (K : PySem.W.Frag) (a v : DE) (f : Str) : DS := fun nx _ _ _ δ M => v δ M fun y M1 => a δ M1 fun x M2 => rPut1 K f x y M2 (nx δ)
theorem put_held {S : Addr → Prop} {H : Hp} {f : Str} {v : V} {d : D} (hd : Dt S H v d) : ∀ {gs : List (Str × V)} {fs : List (Str × D)}, gs.map (·.1) = fs.map (·.1) → DtA S H (gs.map (·.2)) (fs.map (·.2)) → (putF f v gs).map (·.1) = (putD f d fs).map (·.1) ∧ DtA S H ((putF f v gs).map (·.2)) ((putD f d fs).map (·.2))
  | [], [], _, _ => ⟨rfl, .cons hd .nil⟩
  | (n, u) :: gs, (m, e) :: fs, h, .cons h1 t => by
    rw [List.map_cons, List.map_cons, List.cons.injEq] at h
    obtain ⟨h0, h⟩ := h
    have h0 : n = m := h0
    subst h0
    unfold putF putD
    by_cases c : n = f
    · simp only [c, if_true, beq_self_eq_true, List.map_cons]
      exact ⟨by rw [h], .cons hd t⟩
    · have c' : (n == f) = false := by simpa using c
      simp only [c, c', if_false, Bool.false_eq_true, List.map_cons]
      obtain ⟨a, b⟩ := put_held hd h t
      exact ⟨by rw [a], .cons h1 b⟩
theorem map_len {α β γ : Type} {f : α → γ} {g : β → γ} {l : List α} {m : List β} (h : l.map f = m.map g) : l.length = m.length := by
  have := congrArg List.length h
  rwa [List.length_map, List.length_map] at this
instance pu_sfld {K : PySem.W.Frag} {ta tv : TE} {da dv : DE} {f : Str} [A : PuE ta da] [B : PuE tv dv] : PuS (sFld K ta tv f) (sFldD K da dv f) := ⟨fun S M σ δ H nx rt bk ct E w e h l =>
  B.run S M σ δ H _ _ w e h fun d S1 M1 v H1 p1 t1 w1 h1 =>
    A.run S1 M1 σ δ H1 _ _ w1 (e.step w t1) p1 fun d2 S2 M2 v2 H2 p2 t2 w2 h2 => by
      obtain ⟨p, C, fs, rfl, hm, c, n, hl, p2⟩ := p2
      cases h2
      obtain ⟨sp, dx, gs, ha, hn, hs⟩ := w2.mem p _ hm
      have hv := dt_step w1 t2 _ h1
      have ex : Ext S2 H2 (upd H2 p (.ins C dx (putF f v gs))) := Ext.mut (Ext.refl _) sp
      obtain ⟨q1, q2⟩ := put_held (f := f) hv hn hs
      have t3 : Step S2 M2 H2 S2 (mset M2 p (.ins C (putD f d fs))) (upd H2 p (.ins C dx (putF f v gs))) := .change hm
      exact ⟨p, C, dx, gs, rfl, ha, c, n, by rw [map_len hn]; exact hl, l.nx _ _ _ _ _ p2 ((t1.trans t2).trans t3) (w2.change hm ⟨dx, _, upd_same, q1, q2.go ex⟩) (e.step w ((t1.trans t2).trans t3))⟩⟩
/-- while: by an invariant that falls -/
def sWhile (c : DT) (b : DS) : DS := fun nx rt _ _ δ M => ∃ W : Nat → QS, (∃ m, W m δ M) ∧ ∀ m δ M, W m δ M →
  c δ M fun k M1 => if k = true then b (fun δ' M' => ∃ m', m' < m ∧ W m' δ' M') rt nx (fun δ' M' => ∃ m', m' < m ∧ W m' δ' M') δ M1 else nx δ M1
instance pu_while {c : TT} {t : TS} {dc : DT} {dt : DS} [C : PuT c dc] [B : PuS t dt] : PuS (tWhile c t) (sWhile dc dt) := ⟨fun S M σ δ H nx rt bk ct E w e h l => by
  obtain ⟨W, ⟨m0, h0⟩, turn⟩ := h
  refine ⟨fun m σ' H' => ∃ S' M' δ', W m δ' M' ∧ Step S M H S' M' H' ∧ Wo S' M' H' ∧ En S' H' σ' δ', ⟨m0, S, M, δ, h0, .refl, w, e⟩, ?_⟩
  rintro m σ1 H1 ⟨S1, M1, δ1, hW, t1, w1, e1⟩
  refine C.run S1 M1 σ1 δ1 H1 _ _ w1 e1 (turn m δ1 M1 hW) fun b S2 M2 H2 p2 t2 w2 => ?_
  cases b with
  | true =>
    rw [if_pos rfl] at p2 ⊢
    refine ⟨fun σ' H' => ∃ m', m' < m ∧ ∃ S' M' δ', W m' δ' M' ∧ Step S M H S' M' H' ∧ Wo S' M' H' ∧ En S' H' σ' δ', fun σ' H' q => q, ?_⟩
    have t12 := t1.trans t2
    refine B.run S2 M2 σ1 δ1 H2 _ _ _ _ _ w2 (e1.step w1 t2) p2 ⟨?_, l.rt.go t12, fun a b c d e p t3 w f => l.nx a b c d e p (t12.trans t3) w f, ?_⟩
    · rintro δ3 S3 M3 σ3 H3 ⟨m', hm, q⟩ t3 w3 e3
      exact ⟨m', hm, S3, M3, δ3, q, t12.trans t3, w3, e3⟩
    · rintro δ3 S3 M3 σ3 H3 ⟨m', hm, q⟩ t3 w3 e3
      exact ⟨m', hm, S3, M3, δ3, q, t12.trans t3, w3, e3⟩
  | false =>
    rw [if_neg Bool.false_ne_true] at p2 ⊢
    exact l.nx _ S2 M2 _ H2 p2 (t1.trans t2) w2 (e1.step w1 t2)⟩
/-- J walks these data, while G stands -/
structure Walks (J : It) (G : Mem → Prop) (S : Addr → Prop) (M : Mem) (H : Hp) (xs : List D) : Prop where
  stop : ∀ S' M' H', Step S M H S' M' H' → Wo S' M' H' → G M' → J.stop xs.length H'
  go : ∀ i S' M' H', i < xs.length → Step S M H S' M' H' → Wo S' M' H' → G M' → J.go i H'
  yld : ∀ i S' M' H' x H2, i < xs.length → Step S M H S' M' H' → Wo S' M' H' → G M' → J.yld i H' x H2 → Same H' H2 ∧ ∃ d, xs[i]? = some d ∧ Dt S' H2 x d
abbrev DI := Dl → Mem → ((Mem → Prop) → List D → Mem → Prop) → Prop
class PuI (t : TI) (dt : outParam DI) : Prop where
  run : ∀ S M σ δ H (P : (Mem → Prop) → List D → Mem → Prop) (R : It → Hp → Prop), Wo S M H → En S H σ δ → dt δ M P → (∀ G xs S' M' H' J, P G xs M' → Step S M H S' M' H' → Wo S' M' H' → Walks J G S' M' H' xs → R J H') → t σ H R
def rDiL (x : D) (M : Mem) (P : (Mem → Prop) → List D → Mem → Prop) : Prop := (∃ xs, x = .lst xs ∧ P (fun _ => True) xs M) ∨ ∃ p xs, x = .ptr p ∧ M p = some (.lst xs) ∧ P (fun M => M p = some (.lst xs)) xs M
def diL (a : DE) : DI := fun δ M P => a δ M fun x M1 => rDiL x M1 P
def diT (a : DE) : DI := fun δ M P => a δ M fun x M1 => ∃ xs, isTF x xs ∧ P (fun _ => True) xs M1
def diS (a : DE) : DI := fun δ M P => a δ M fun x M1 => ∃ z, x = .str z ∧ P (fun _ => True) ((cd z).map sgn) M1
def diR1 (a : DA) : DI := fun δ M P => a δ M fun xs M1 => ∃ j : Int, xs = [.int j] ∧ -(2 ^ 62) ≤ j ∧ j < 2 ^ 62 ∧ P (fun _ => True) (rgD 0 j) M1
def diR2 (a : DA) : DI := fun δ M P => a δ M fun xs M1 => ∃ i j : Int, xs = [.int i, .int j] ∧ (-(2 ^ 62) ≤ i ∧ i < 2 ^ 62 ∧ -(2 ^ 62) ≤ j ∧ j < 2 ^ 62) ∧ P (fun _ => True) (rgD i j) M1
section
variable {S S' : Addr → Prop} {M M' : Mem} {H H' : Hp} {K : PySem.W.Frag}
theorem at_some {α : Type} {xs : List α} {i : Nat} (h : i < xs.length) : xs[i]? = some xs[i] := by simp [h]
theorem walks_list {a : Addr} {vs : List V} {xs : List D} {G : Mem → Prop} (q : ∀ S' M' H', Step S M H S' M' H' → Wo S' M' H' → G M' → ∃ vs, H' a = some (.lst vs) ∧ DtA S' H' vs xs) : Walks (Itl K a) G S M H xs where
  stop S' M' H' t w g := by
    obtain ⟨vs, h1, h2⟩ := q S' M' H' t w g
    exact ⟨vs, SqL.of h1, by rw [h2.length]; exact Nat.le_refl _⟩
  go i S' M' H' hi t w g := by
    obtain ⟨vs, h1, h2⟩ := q S' M' H' t w g
    have hl := h2.length
    exact ⟨vs, vs[i], SqL.of h1, at_some (by omega)⟩
  yld i S' M' H' x H2 hi t w g y := by
    obtain ⟨vs, h1, h2⟩ := q S' M' H' t w g
    obtain ⟨rfl, y⟩ := y
    obtain ⟨d, e1, e2⟩ := h2.getV (y vs (SqL.of h1))
    exact ⟨Same.refl _, d, e1, e2⟩
theorem walks_tf {a : Addr} {vs : List V} {xs : List D} {G : Mem → Prop} (q : ∀ S' M' H', Step S M H S' M' H' → Wo S' M' H' → G M' → ∃ vs, Rd H' a (.tup vs) ∧ DtA S' H' vs xs) : Walks (Itt K a) G S M H xs where
  stop S' M' H' t w g := by
    obtain ⟨vs, h1, h2⟩ := q S' M' H' t w g
    exact ⟨vs, Or.inl h1, by rw [h2.length]; exact Nat.le_refl _⟩
  go i S' M' H' hi t w g := by
    obtain ⟨vs, h1, h2⟩ := q S' M' H' t w g
    have hl := h2.length
    exact ⟨vs, vs[i], Or.inl h1, at_some (by omega)⟩
  yld i S' M' H' x H2 hi t w g y := by
    obtain ⟨vs, h1, h2⟩ := q S' M' H' t w g
    obtain ⟨rfl, y⟩ := y
    obtain ⟨d, e1, e2⟩ := h2.getV (y vs (Or.inl h1))
    exact ⟨Same.refl _, d, e1, e2⟩
theorem stay_lst (w : Wo S M H) {a : Addr} {xs : List D} (h : Dt S H (.ref a) (.lst xs)) : ∀ S' M' H', Step S M H S' M' H' → Wo S' M' H' → True → ∃ vs, H' a = some (.lst vs) ∧ DtA S' H' vs xs := fun S' M' H' t w' _ => by
  have h' := dt_step w t _ h
  cases h' with
  | lst n ha hs => exact ⟨_, ha, hs⟩
theorem stay_tf (w : Wo S M H) {a : Addr} {x : D} {xs : List D} (h : Dt S H (.ref a) x) (e : isTF x xs) : ∀ S' M' H', Step S M H S' M' H' → Wo S' M' H' → True → ∃ vs, Rd H' a (.tup vs) ∧ DtA S' H' vs xs := fun S' M' H' t w' _ => by
  have h' := dt_step w t _ h
  obtain ⟨b, vs, e1, n, ha, hs⟩ := tf_get h' e
  cases e1
  exact ⟨vs, ha, hs⟩
theorem rgD_get {i j : Int} {k : Nat} (h : k < (rgD i j).length) : (rgD i j)[k]? = some (.int (i + (k : Nat))) := by
  unfold rgD at h ⊢
  rw [List.length_map, List.length_range] at h
  rw [List.getElem?_map, List.getElem?_range h]
  rfl
theorem rgD_len (i j : Int) : (rgD i j).length = (j - i).toNat := by unfold rgD; rw [List.length_map, List.length_range]
theorem walks_rng {lo hi : Int} {n : Nat} (hn : (hi - lo).toNat = n) {G : Mem → Prop} : Walks (Itr lo n) G S M H (rgD lo hi) where
  stop S' M' H' t w g := by rw [rgD_len, hn]; exact Nat.le_refl n
  go i S' M' H' hi t w g := by rw [rgD_len, hn] at hi; exact hi
  yld i S' M' H' x H2 hi t w g y := by
    obtain ⟨rfl, rfl⟩ := y
    exact ⟨Same.refl _, _, rgD_get hi, .int _⟩
theorem walks_str {z : Str} {G : Mem → Prop} : Walks (Its z) G S M H ((cd z).map sgn) where
  stop S' M' H' t w g := by rw [List.length_map]; show z.cps.size ≤ _; rw [cd_size]; exact Nat.le_refl _
  go i S' M' H' hi t w g := by rw [List.length_map] at hi; show i < z.cps.size; rw [cd_size]; exact hi
  yld i S' M' H' x H2 hi t w g y := by
    obtain ⟨rfl, c, hc, rfl⟩ := y
    refine ⟨Same.refl _, sgn c, ?_, .str _⟩
    rw [List.getElem?_map, cd_get hc]
    rfl
end
section
variable {ta : TE} {da : DE} {K : PySem.W.Frag} {tt : TA} {dd : DA}
instance pu_iL [A : PuE ta da] : PuI (iList K ta) (diL da) := ⟨fun S M σ δ H P R w e h k =>
  A.run S M σ δ H _ _ w e h fun d S1 M1 v H1 p1 t1 w1 h1 => by
    rcases p1 with ⟨xs, rfl, p1⟩ | ⟨p, xs, rfl, hm, p1⟩
    · cases h1 with
      | lst n ha hs => exact ⟨_, rfl, ⟨_, SqL.of ha⟩, k _ xs S1 M1 H1 _ p1 t1 w1 (walks_list (vs := []) (stay_lst w1 (.lst n ha hs)))⟩
    · cases h1
      obtain ⟨_, vs, ha, hs⟩ := w1.mem p _ hm
      refine ⟨_, rfl, ⟨_, SqL.of ha⟩, k _ xs S1 M1 H1 _ p1 t1 w1 (walks_list (vs := []) fun S' M' H' t w' g => ?_)⟩
      obtain ⟨_, vs, h1, h2⟩ := w'.mem p _ g
      exact ⟨vs, h1, h2⟩⟩
instance pu_iT [A : PuE ta da] : PuI (iTup K ta) (diT da) := ⟨fun S M σ δ H P R w e h k =>
  A.run S M σ δ H _ _ w e h fun d S1 M1 v H1 p1 t1 w1 h1 => by
    obtain ⟨xs, hx, p1⟩ := p1
    obtain ⟨a, vs, rfl, n, ha, hs⟩ := tf_get h1 hx
    exact ⟨_, rfl, ⟨_, Or.inl ha⟩, k _ xs S1 M1 H1 _ p1 t1 w1 (walks_tf (vs := []) (stay_tf w1 h1 hx))⟩⟩
instance pu_iS [A : PuE ta da] : PuI (iStr ta) (diS da) := ⟨fun S M σ δ H P R w e h k =>
  A.run S M σ δ H _ _ w e h fun d S1 M1 v H1 p1 t1 w1 h1 => by
    obtain ⟨z, rfl, p1⟩ := p1
    cases h1
    exact ⟨z, rfl, k _ _ S1 M1 H1 _ p1 t1 w1 walks_str⟩⟩
instance pu_iR1 [A : PuA tt dd] : PuI (iRng1 tt) (diR1 dd) := ⟨fun S M σ δ H P R w e h k =>
  A.run S M σ δ H _ _ w e h fun d S1 M1 v H1 p1 t1 w1 h1 => by
    obtain ⟨j, rfl, b1, b2, p1⟩ := p1
    match v, h1 with
    | [_], .cons (.int _) .nil => exact ⟨j, rfl, b1, b2, k _ _ S1 M1 H1 _ p1 t1 w1 (walks_rng (by rw [Int.sub_zero]))⟩⟩
instance pu_iR2 [A : PuA tt dd] : PuI (iRng2 tt) (diR2 dd) := ⟨fun S M σ δ H P R w e h k =>
  A.run S M σ δ H _ _ w e h fun d S1 M1 v H1 p1 t1 w1 h1 => by
    obtain ⟨i, j, rfl, b, p1⟩ := p1
    match v, h1 with
    | [_, _], .cons (.int _) (.cons (.int _) .nil) => exact ⟨i, j, rfl, b, k _ _ S1 M1 H1 _ p1 t1 w1 (walks_rng rfl)⟩⟩
end
/-- the turns that are left -/
def dLoop (G : Mem → Prop) (g : DG) (b : DS) (nx : QS) (rt : QD) : List D → QS
  | [], δ, M => nx δ M
  | x :: xs, δ, M => g x δ M fun δ1 M1 => b (fun δ' M' => G M' ∧ dLoop G g b nx rt xs δ' M') rt nx (fun δ' M' => G M' ∧ dLoop G g b nx rt xs δ' M') δ1 M1
def sFor (i : DI) (g : DG) (b : DS) : DS := fun nx rt _ _ δ M => i δ M fun G xs M1 => G M1 ∧ dLoop G g b nx rt xs δ M1
theorem drop_cons {α : Type} {xs : List α} {i : Nat} {x : α} (h : xs[i]? = some x) : xs.drop i = x :: xs.drop (i + 1) := by
  obtain ⟨hi, rfl⟩ := List.getElem?_eq_some_iff.mp h
  exact List.drop_eq_getElem_cons hi
instance pu_for {ti : TI} {g : TG} {t : TS} {di : DI} {dg : DG} {dt : DS} {sl : List Nat} [I : PuI ti di] [A : PuG g dg sl] [B : PuS t dt] : PuS (tFor ti g t) (sFor di dg dt) := ⟨fun S M σ δ H nx rt bk ct E w e h l =>
  I.run S M σ δ H _ _ w e h fun G xs S1 M1 H1 J p1 t1 w1 wk => by
    refine ⟨fun i m σ' H' => i ≤ xs.length ∧ m = xs.length - i ∧ ∃ S' M' δ', G M' ∧ dLoop G dg dt nx rt (xs.drop i) δ' M' ∧ Step S1 M1 H1 S' M' H' ∧ Wo S' M' H' ∧ En S' H' σ' δ', ⟨_, Nat.zero_le _, rfl, S1, M1, δ, p1.1, p1.2, .refl, w1, e.step w t1⟩, ?_⟩
    rintro i m σ2 H2 ⟨hi, rfl, S2, M2, δ2, g2, p2, t2, w2, e2⟩
    by_cases hlt : i < xs.length
    · refine .inr ⟨wk.go i S2 M2 H2 hlt t2 w2 g2, fun σ' H' => ∃ S' M' δ', G M' ∧ dLoop G dg dt nx rt (xs.drop (i + 1)) δ' M' ∧ Step S1 M1 H1 S' M' H' ∧ Wo S' M' H' ∧ En S' H' σ' δ', ?_, ?_⟩
      · rintro σ' H' q
        exact ⟨_, by omega, hlt, rfl, q⟩
      · intro x H3 y
        obtain ⟨same, d, hd, hx⟩ := wk.yld i S2 M2 H2 x H3 hlt t2 w2 g2 y
        rw [drop_cons hd] at p2
        have t3 : Step S2 M2 H2 S2 M2 H3 := .same same
        have w3 := w2.same same
        refine A.run S2 M2 σ2 δ2 H3 x d _ _ w3 (e2.step w2 t3) hx p2 fun δ4 S4 M4 σ4 H4 p4 t4 w4 e4 _ => ?_
        have t14 := (t2.trans t3).trans t4
        refine B.run S4 M4 σ4 δ4 H4 _ _ _ _ _ w4 e4 p4 ⟨?_, l.rt.go (t1.trans t14), fun a b c d e p t5 w f => l.nx a b c d e p ((t1.trans t14).trans t5) w f, ?_⟩
        · rintro δ5 S5 M5 σ5 H5 ⟨g5, p5⟩ t5 w5 e5
          exact ⟨S5, M5, δ5, g5, p5, t14.trans t5, w5, e5⟩
        · rintro δ5 S5 M5 σ5 H5 ⟨g5, p5⟩ t5 w5 e5
          exact ⟨S5, M5, δ5, g5, p5, t14.trans t5, w5, e5⟩
    · have ei : i = xs.length := by omega
      subst ei
      rw [List.drop_length] at p2
      exact .inl ⟨wk.stop S2 M2 H2 t2 w2 g2, l.nx _ S2 M2 _ H2 p2 (t1.trans t2) w2 e2⟩⟩
def dGather (G : Mem → Prop) (g : DG) (t : DT) (a : DE) (vs : List Nat) (δ : Dl) (P : QD) : List D → List D → Mem → Prop
  | [], acc, M => P (.lst acc) M
  | x :: xs, acc, M => g x (wipeD δ vs) M fun δ1 M1 => t δ1 M1 fun b M2 => if b = true then a δ1 M2 fun y M3 => G M3 ∧ dGather G g t a vs δ P xs (acc ++ [y]) M3 else G M2 ∧ dGather G g t a vs δ P xs acc M2
def dLc (i : DI) (g : DG) (t : DT) (a : DE) (vs : List Nat) : DE := fun δ M P => i δ M fun G xs M1 => G M1 ∧ xs.length ≤ 16777216 ∧ dGather G g t a vs δ P xs [] M1
class MemL (i : Nat) (vs : List Nat) : Prop where
  h : i ∈ vs
instance memL_mh {i : Nat} {n : Str} {l : List (Str × Nat)} : MemL i (List.map (fun x => x.2) ((n, i) :: l)) := ⟨by simp⟩
instance memL_mt {i j : Nat} {n : Str} {l : List (Str × Nat)} [A : MemL i (List.map (fun x => x.2) l)] : MemL i (List.map (fun x => x.2) ((n, j) :: l)) := ⟨List.mem_cons_of_mem _ A.h⟩
class SubL (sl vs : List Nat) : Prop where
  h : ∀ i ∈ sl, i ∈ vs
instance subL_nil {vs : List Nat} : SubL [] vs := ⟨fun _ h => by cases h⟩
instance subL_cons {i : Nat} {sl vs : List Nat} [A : MemL i vs] [B : SubL sl vs] : SubL (i :: sl) vs := ⟨fun j h => (List.mem_cons.mp h).elim (fun e => by rw [e]; exact A.h) (B.h j)⟩
instance subL_app {s1 s2 vs : List Nat} [A : SubL s1 vs] [B : SubL s2 vs] : SubL (s1 ++ s2) vs := ⟨fun j h => (List.mem_append.mp h).elim (A.h j) (B.h j)⟩
def dYes : DT := fun _ M P => P true M
instance pu_yes : PuT tYes dYes := ⟨fun S M σ δ H P Q w e h k => k _ S M H h .refl w⟩
theorem wipe_wipe (σ : L2.St) (vs : List Nat) : L2.wipe (L2.wipe σ vs) vs = L2.wipe σ vs := by
  have : ∀ (us : List Nat), (∀ i ∈ us, i ∈ vs) → L2.wipe (L2.wipe σ us) vs = L2.wipe σ vs := by
    intro us
    induction us with
    | nil => intro _; rfl
    | cons u us ih =>
      intro h
      rw [show L2.wipe σ (u :: us) = (L2.wipe σ us).set u none from rfl, wipe_set _ _ _ _ (h u List.mem_cons_self)]
      exact ih fun i hi => h i (List.mem_cons_of_mem _ hi)
  exact this vs fun _ h => h
instance pu_lc {ti : TI} {g : TG} {t : TT} {ta : TE} {di : DI} {dg : DG} {dt : DT} {da : DE} {sl vs : List Nat} [I : PuI ti di] [A : PuG g dg sl] [sub : SubL sl vs] [T : PuT t dt] [B : PuE ta da] : PuE (tLc ti g t ta vs) (dLc di dg dt da vs) := ⟨fun S M σ δ H P Q w e h k =>
  I.run S M σ δ H _ _ w e h fun G xs S1 M1 H1 J p1 t1 w1 wk => by
    intro D0 hD
    obtain ⟨g1, hn, p1⟩ := p1
    -- what stands between the turns
    let Iv : Nat → Hp → Prop := fun i H' => ∃ S' M' acc ws, G M' ∧ dGather G dg dt da vs δ P (xs.drop i) acc M' ∧ Step S1 M1 H1 S' M' H' ∧ Wo S' M' H' ∧ En S' H' σ δ ∧ S' D0 ∧ M' D0 = none ∧ H' D0 = some (.lst ws) ∧ DtA S' H' ws acc ∧ acc.length ≤ i
    refine ⟨fun i m H' => i ≤ xs.length ∧ m = xs.length - i ∧ Iv i H', ⟨_, Nat.zero_le _, rfl, (fun a => S1 a ∨ a = D0), M1, [], [], g1, p1, .apart hD, w1.apart hD, (e.step w t1).step w1 (.apart hD), .inr rfl, w1.fresh hD, upd_same, .nil, Nat.zero_le _⟩, ?_⟩
    rintro i m H2 ⟨hi, rfl, S2, M2, acc, ws, g2, p2, t2, w2, e2, sD, mD, hL, hA, hlen⟩
    by_cases hlt : i < xs.length
    · refine .inr ⟨wk.go i S2 M2 H2 hlt t2 w2 g2, Iv (i + 1), fun H' q => ⟨_, by omega, hlt, rfl, q⟩, ?_⟩
      intro x H3 y
      obtain ⟨same, d, hd, hx⟩ := wk.yld i S2 M2 H2 x H3 hlt t2 w2 g2 y
      rw [drop_cons hd] at p2
      have t3 : Step S2 M2 H2 S2 M2 H3 := .same same
      have w3 := w2.same same
      have e3 := e2.step w2 t3
      refine A.run S2 M2 _ _ H3 x d _ _ w3 (e3.wipe vs) hx p2 fun δ4 S4 M4 σ4 H4 p4 t4 w4 e4 o4 => ⟨by rw [o4 vs sub.h, wipe_wipe], ?_⟩
      refine T.run S4 M4 σ4 δ4 H4 _ _ w4 e4 p4 fun b S5 M5 H5 p5 t5 w5 => ?_
      have t25 := (t3.trans t4).trans t5
      obtain ⟨hL5, mD5, sD5⟩ := t25.keep _ _ mD hL
      have hA5 := dtA_step w2 t25 _ hA
      cases b with
      | true =>
        rw [if_pos rfl] at p5 ⊢
        refine B.run S5 M5 σ4 δ4 H5 _ _ w5 (e4.step w4 t5) p5 fun y S6 M6 v H6 p6 t6 w6 h6 => ?_
        obtain ⟨hL6, mD6, sD6⟩ := t6.keep _ _ mD5 hL5
        have hA6 := dtA_step w5 t6 _ hA5
        have sd : S6 D0 := sD6.mpr (sD5.mpr sD)
        have ex : Ext S6 H6 (upd H6 D0 (.lst (ws ++ [v]))) := Ext.mut (Ext.refl _) sd
        refine ⟨ws, hL6, by rw [hA.length]; exact Nat.lt_of_le_of_lt hlen (Nat.lt_of_lt_of_le hlt (by rw [sizeLine_eq]; exact hn)), S6, M6, acc ++ [y], ws ++ [v], p6.1, p6.2, ?_, ?_, ?_, sd, mD6, upd_same, (hA6.snoc h6).go ex, by rw [List.length_append, List.length_singleton]; omega⟩
        · have t16 := (t2.trans t25).trans t6
          refine ⟨fun b o n hb => ?_⟩
          obtain ⟨q1, q2, q3⟩ := t16.keep b o n hb
          exact ⟨(upd_ne (ne_of_none hb hD)).trans q1, q2, q3⟩
        · refine ⟨fun a s => ?_, fun a mo q => ?_⟩
          · by_cases c : a = D0
            · rw [c, upd_same]; exact fun z => nomatch z
            · rw [upd_ne c]; exact w6.tr a s
          · obtain ⟨s, q2⟩ := w6.mem a mo q
            have c : a ≠ D0 := by rintro rfl; rw [mD6] at q; cases q
            exact ⟨s, held_ext ex (fun u hu => (upd_ne c).trans hu) q2⟩
        · have e6 : En S6 H6 σ δ := e3.step w3 ((t4.trans t5).trans t6)
          exact ⟨e6.len, fun i d h => by
            obtain ⟨v, h1, h2⟩ := e6.at_ i d h
            exact ⟨v, h1, h2.go ex⟩⟩
      | false =>
        rw [if_neg Bool.false_ne_true] at p5 ⊢
        exact ⟨S5, M5, acc, ws, p5.1, p5.2, t2.trans t25, w5, e2.step w2 t25, sD5.mpr sD, mD5, hL5, hA5, by omega⟩
    · have ei : i = xs.length := by omega
      subst ei
      rw [List.drop_length] at p2
      refine .inl ⟨wk.stop S2 M2 H2 t2 w2 g2, k _ (fun a => S2 a ∧ a ≠ D0) M2 _ H2 p2 (t1.trans ⟨fun b o n hb => ?_⟩) ⟨fun a s => w2.tr a s.1, fun a mo q => ?_⟩ (.lst (fun z => z.2 rfl) hL (dtA_freeze hA))⟩
      · obtain ⟨q1, q2, q3⟩ := t2.keep b o n hb
        have c := ne_of_none hb hD
        exact ⟨q1, q2, ⟨fun z => q3.mp z.1, fun z => ⟨q3.mpr z, c⟩⟩⟩
      · obtain ⟨s, q2⟩ := w2.mem a mo q
        have c : a ≠ D0 := by rintro rfl; rw [mD] at q; cases q
        exact ⟨⟨s, c⟩, held_set (fun b n _ z => n z.1) q2⟩⟩
end V
namespace V
open PySem PySem.Spec PyProof.Rows L2 U StX
def lift (sp : DC) : Sp := fun vs H Q E => ∃ S M ds P, Wo S M H ∧ DtA S H vs ds ∧ sp ds M P ∧ AtE S M H P Q
/-- an __init__ whose instance changes no more -/
def liftF (sp : DC) : Sp := lift sp
def startD (N : List Str) (ds : List D) : Dl := ds.map some ++ List.replicate (N.length - ds.length) none
theorem en_start {S : Addr → Prop} {H : Hp} (N : List Str) : ∀ {vs : List V} {ds : List D}, DtA S H vs ds → En S H (L2.start N vs) (startD N ds) := by
  intro vs ds h
  have hl := h.length
  refine ⟨by unfold L2.start startD; simp [hl], fun i d hi => ?_⟩
  unfold startD at hi
  unfold L2.start
  by_cases c : i < ds.length
  · rw [List.getElem?_append_left (by rw [List.length_map]; exact c), List.getElem?_map] at hi
    obtain ⟨d', h1, h2⟩ := Option.map_eq_some_iff.mp hi
    cases h2
    obtain ⟨v, h3, h4⟩ := h.get h1
    refine ⟨v, ?_, h4⟩
    rw [List.getElem?_append_left (by rw [List.length_map]; omega), List.getElem?_map, h3]
    rfl
  · rw [List.getElem?_append_right (by rw [List.length_map]; omega), List.getElem?_replicate] at hi
    split at hi <;> cases hi
section
variable {P : Program} {w : World} {K : PySem.W.Frag} {mg : Str → Option Value} {base : Heap} {x qual : Str} {st : Stmt} {f : Addr} {fd : FuncData} {N ps : List Str} {k : Nat} {sp : DC}
theorem liftLen (len : ∀ ds M P, sp ds M P → ds.length = ps.length) : ∀ vs H Q E, lift sp vs H Q E → vs.length = ps.length := fun vs H Q E ⟨S, M, ds, P, _, h, p, _⟩ => by rw [h.length]; exact len ds M P p
theorem body_run {X : Cx} {body : List Stmt} {t : TS} {dt : DS} [A : PuS t dt] (go : ∀ ds M P, sp ds M P → dt (fun _ M' => P .non M') P (fun _ _ => False) (fun _ _ => False) (startD N ds) M) {vs : List V} {H : Hp} {Q : VK} {E : XK} (h : lift sp vs H Q E) :
    t { nx := fun _ H' => Q .non H', rt := Q } (L2.start N vs) H := by
  obtain ⟨S, M, ds, P, w, h, p, k⟩ := h
  exact A.run S M _ _ H _ _ _ _ _ w (en_start N h) (go ds M P p) ⟨fun δ' S' M' σ' H' q t w e => k _ S' M' _ H' q t w .non, k, fun _ _ _ _ _ q => q.elim, fun _ _ _ _ _ q => q.elim⟩
theorem fnD (F : L2.Fun K x qual st f fd) (S : FnScope N ps (L2.defScope st)) (len : ∀ ds M P, sp ds M P → ds.length = ps.length)
    (hb : ∀ (cdv : Value) (A : Around) (outer : List Env) (s : Shared) (H : Hp) (E : XK), Room k (A.deeper (envOfC qual (L2.defScope st) s.heap.objs.size f cdv)) →
      ∃ t, PSs (cxOf L2.CX0 P w K mg base N qual (L2.defScope st) f cdv A outer s H E).nox (L2.defBody st) t ∧ ∃ dt, PuS t dt ∧ ∀ ds M P, sp ds M P → dt (fun _ M' => P .non M') P (fun _ _ => False) (fun _ _ => False) (startD N ds) M) :
    FnOk P w K mg base L2.CX0 (k + 1) f fd ps (lift sp) :=
  F.ok S (liftLen len) fun cdv A outer s H vs Q E hr h => by
    obtain ⟨t, ht, dt, A, go⟩ := hb cdv A outer s H E hr
    exact ⟨t, ht, body_run (X := cxOf L2.CX0 P w K mg base N qual (L2.defScope st) f cdv ‹_› outer s H E) (body := L2.defBody st) go h⟩
theorem fnDG (F : L2.Fun K x qual st f fd) (S : FnScope N ps (L2.defScope st)) (len : ∀ ds M P, sp ds M P → ds.length = ps.length)
    (hb : ∀ (cdv : Value) (A : Around) (outer : List Env) (s : Shared) (H : Hp) (E : XK), Room k (A.deeper (envOfC qual (L2.defScope st) s.heap.objs.size f cdv)) → A.guards = some [] →
      ∃ t, PSs (cxOf L2.CX0 P w K mg base N qual (L2.defScope st) f cdv A outer s H E).nox (L2.defBody st) t ∧ ∃ dt, PuS t dt ∧ ∀ ds M P, sp ds M P → dt (fun _ M' => P .non M') P (fun _ _ => False) (fun _ _ => False) (startD N ds) M) :
    FnG P w K mg base (k + 1) f fd ps (lift sp) :=
  fnG_of F S (liftLen len) fun cdv A outer s H vs Q E hr hg h => by
    obtain ⟨t, ht, dt, A, go⟩ := hb cdv A outer s H E hr hg
    exact ⟨t, ht, body_run (X := cxOf L2.CX0 P w K mg base N qual (L2.defScope st) f cdv ‹_› outer s H E) (body := L2.defBody st) go h⟩
theorem fn_weak {spA spB : Sp} {CX : CXT} (F : FnOk P w K mg base CX k f fd ps spA) (h : ∀ vs H Q E, spB vs H Q E → spA vs H Q E) : FnOk P w K mg base CX k f fd ps spB :=
  ⟨fun vs H Q E q => F.len vs H Q E (h vs H Q E q), fun A outer s H args us vs Q E hr e0 hb r hsp => F.run A outer s H args us vs Q E hr e0 hb r (h _ _ _ _ hsp)⟩
theorem fnG_weak {spA spB : Sp} (F : FnG P w K mg base k f fd ps spA) (h : ∀ vs H Q E, spB vs H Q E → spA vs H Q E) : FnG P w K mg base k f fd ps spB :=
  ⟨fun vs H Q E q => F.len vs H Q E (h vs H Q E q), fun A outer s H args us vs Q E hr hg e0 hb r hsp => F.run A outer s H args us vs Q E hr hg e0 hb r (h _ _ _ _ hsp)⟩
end
def dCall (sp : DC) (t : DA) : DE := fun δ M P => t δ M fun ds M1 => sp ds M1 P
def dCallN (n m : Nat) (sp : DC) (g : List D → List D → List D) (t tk : DA) : DE := fun δ M P => t δ M fun ds M1 => tk δ M1 fun es M2 => ds.length = n ∧ es.length = m ∧ sp (g ds es) M2 P
def dMeth (C : Addr) (m : Str) (sp : DC) (a : DE) (t : DA) : DE := fun δ M P => a δ M fun x M1 => (∃ ns xs, isIn M1 x C ns xs ∧ m ∉ ns) ∧ t δ M1 fun ds M2 => sp (x :: ds) M2 P
/-- a new instance -/
def rMake (C : Addr) (sp : DC) : DC := fun ds M P => ∀ x, M x = none → sp (.ptr x :: ds) (mset M x (.ins C [])) fun d M2 => d = .non ∧ P (.ptr x) M2
def rMakeF (C : Addr) (sp : DC) : DC := fun ds M P => ∀ x, M x = none → sp (.ptr x :: ds) (mset M x (.ins C [])) fun d M2 => d = .non ∧ ∃ fs, M2 x = some (.ins C fs) ∧ P (.ins C (fs.map (·.1)) (fs.map (·.2))) (mdel M2 x)
def dMakeK (r : DC) (g : List D → List D) (n : Nat) (tk : DA) : DE := fun δ M P => tk δ M fun es M1 => es.length = n ∧ r (g es) M1 P
section
variable {t tk : TA} {dt dk : DA} {ta : TE} {da : DE} {sp : DC} {E : XK} {C : Addr} {m : Str}
instance pu_call [A : PuA t dt] : PuE (tCall (lift sp) [] E t) (dCall sp dt) := ⟨fun S M σ δ H P Q w e h k =>
  A.run S M σ δ H _ _ w e h fun ds S1 M1 vs H1 p1 t1 w1 h1 => by
    rw [List.append_nil]
    exact ⟨S1, M1, ds, P, w1, h1, p1, k.go t1⟩⟩
theorem lookup_none {fs : List (Str × V)} (h : m ∉ fs.map (·.1)) : fs.lookup m = none := by
  induction fs with
  | nil => rfl
  | cons p fs ih =>
    rw [List.map_cons, List.mem_cons, not_or] at h
    obtain ⟨a, b⟩ := p
    rw [List.lookup_cons]
    have : (m == a) = false := by simpa using h.1
    simp only [this]
    exact ih h.2
instance pu_meth [A : PuE ta da] [B : PuA t dt] : PuE (tMeth C m (lift sp) [] E ta t) (dMeth C m sp da dt) := ⟨fun S M σ δ H P Q w e h k =>
  A.run S M σ δ H _ _ w e h fun d S1 M1 v H1 p1 t1 w1 h1 => by
    obtain ⟨⟨ns, xs, hi, hm⟩, p1⟩ := p1
    obtain ⟨a, dx, fs, rfl, ha, hn, hs⟩ := in_get w1 h1 hi
    refine ⟨a, dx, fs, rfl, ha, lookup_none (by rw [hn]; exact hm), B.run S1 M1 σ δ H1 _ _ w1 (e.step w t1) p1 fun ds S2 M2 vs H2 p2 t2 w2 h2 => ?_⟩
    rw [List.append_nil]
    exact ⟨S2, M2, d :: ds, P, w2, .cons (dt_step w1 t2 _ h1) h2, p2, k.go (t1.trans t2)⟩⟩
theorem new_ins {S : Addr → Prop} {M : Mem} {H : Hp} (w : Wo S M H) {x dx : Addr} (nx : H x = none) (nd : H dx = none) (ne : dx ≠ x) :
    Wo (fun a => S a ∨ a = x) (mset M x (.ins C [])) (upd (upd H dx (.own x)) x (.ins C dx [])) ∧ Step S M H (fun a => S a ∨ a = x) (mset M x (.ins C [])) (upd (upd H dx (.own x)) x (.ins C dx [])) := by
  have w1 := w.new (o := .own x) nd
  have nx1 : upd H dx (.own x) x = none := by rw [upd_ne ne.symm]; exact nx
  exact ⟨w1.mutable nx1 ⟨dx, [], upd_same, rfl, .nil⟩, (Step.new nd).trans (.mutable w1 nx1)⟩
theorem make_go {S : Addr → Prop} {M : Mem} {H : Hp} {P : QD} {Q : VK} {vs : List V} {ds : List D} {x dx : Addr} (w : Wo S M H) (h : DtA S H vs ds) (p : rMake C sp ds M P) (k : AtE S M H P Q) (nx : H x = none) (nd : H dx = none) (ne : dx ≠ x) :
    lift sp (.ref x :: vs) (upd (upd H dx (.own x)) x (.ins C dx [])) (fun v H2 => v = .non ∧ Q (.ref x) H2) E := by
  obtain ⟨w1, t1⟩ := new_ins (C := C) w nx nd ne
  refine ⟨_, _, _, _, w1, .cons (.ptr x) (dtA_step w t1 _ h), p x (w.fresh nx), fun d S2 M2 v H2 q t2 w2 hv => ?_⟩
  obtain ⟨rfl, q⟩ := q
  cases hv
  exact ⟨rfl, k _ S2 M2 _ H2 q (t1.trans t2) w2 (.ptr x)⟩
theorem makeF_go {S : Addr → Prop} {M : Mem} {H : Hp} {P : QD} {Q : VK} {vs : List V} {ds : List D} {x dx : Addr} (w : Wo S M H) (h : DtA S H vs ds) (p : rMakeF C sp ds M P) (k : AtE S M H P Q) (nx : H x = none) (nd : H dx = none) (ne : dx ≠ x) :
    liftF sp (.ref x :: vs) (upd (upd H dx (.own x)) x (.ins C dx [])) (fun v H2 => v = .non ∧ Q (.ref x) H2) E := by
  obtain ⟨w1, t1⟩ := new_ins (C := C) w nx nd ne
  refine ⟨_, _, _, _, w1, .cons (.ptr x) (dtA_step w t1 _ h), p x (w.fresh nx), fun d S2 M2 v H2 q t2 w2 hv => ?_⟩
  obtain ⟨rfl, fs, hm, q⟩ := q
  cases hv
  obtain ⟨sx, dx', gs, ha, hn, hs⟩ := w2.mem x _ hm
  have t3 := (t1.trans t2).trans (Step.freeze (S := S2) (H := H2) hm)
  exact ⟨rfl, k _ _ _ _ H2 q t3 w2.freeze (.ins (fun z => z.2 rfl) ha hn (dtA_freeze hs))⟩
instance pu_make [A : PuA t dt] : PuE (tMake C (lift sp) [] E t) (dCB (rMake C sp) dt) := ⟨fun S M σ δ H P Q w e h k =>
  A.run S M σ δ H _ _ w e h fun ds S1 M1 vs H1 p1 t1 w1 h1 x dx nx nd ne => by
    rw [List.append_nil]
    exact make_go w1 h1 p1 (k.go t1) nx nd ne⟩
instance pu_makeF [A : PuA t dt] : PuE (tMake C (liftF sp) [] E t) (dCB (rMakeF C sp) dt) := ⟨fun S M σ δ H P Q w e h k =>
  A.run S M σ δ H _ _ w e h fun ds S1 M1 vs H1 p1 t1 w1 h1 x dx nx nd ne => by
    rw [List.append_nil]
    exact makeF_go w1 h1 p1 (k.go t1) nx nd ne⟩
def d0 : List D → List D := pk0
end
def potD (p : Addr) : D := .opq p (potO p)
def spDrawD : DC := fun ds M P => ∃ p n, ds = [potD p, .int n] ∧ (0 < n ∧ n < 1073741824) ∧ ∀ r, 0 ≤ r → r < n → P (.int r) M
theorem draw_lift : ∀ vs H Q E, lift spDrawD vs H Q E → spDraw vs H Q E := by
  rintro vs H Q E ⟨S, M, ds, P, w, h, ⟨p, n, rfl, hn, q⟩, k⟩
  match vs, h with
  | [_, _], .cons (.opq np hp) (.cons (.int _) .nil) => exact ⟨p, n, rfl, hp, hn, fun r H' e h0 h1 => k _ S M _ H' (q r h0 h1) (.same e) (w.same e) (.int r)⟩
section
variable {G : Mem → Prop} {g : DG} {b : DS} {nx : QS} {rt : QD} {xs : List D} {δ : Dl} {M : Mem}
theorem loop_inv (I : Nat → QS) (h0 : I 0 δ M)
    (step : ∀ i x δ M (Kc : QS), xs[i]? = some x → I i δ M → (∀ δ' M', G M' → I (i + 1) δ' M' → G M' ∧ Kc δ' M') → g x δ M fun δ1 M1 => b (fun δ' M' => G M' ∧ Kc δ' M') rt nx (fun δ' M' => G M' ∧ Kc δ' M') δ1 M1)
    (fin : ∀ δ M, I xs.length δ M → nx δ M) : dLoop G g b nx rt xs δ M := by
  have key : ∀ k i δ M, i + k = xs.length → I i δ M → dLoop G g b nx rt (xs.drop i) δ M := by
    intro k
    induction k with
    | zero =>
      intro i δ M e h
      have : i = xs.length := by omega
      subst this
      rw [List.drop_length]
      exact fin δ M h
    | succ k ih =>
      intro i δ M e h
      have hx := at_some (xs := xs) (i := i) (by omega)
      rw [drop_cons hx]
      exact step i _ δ M (dLoop G g b nx rt (xs.drop (i + 1))) hx h fun δ' M' g' h' => ⟨g', ih (i + 1) δ' M' (by omega) h'⟩
  exact key xs.length 0 δ M (by omega) h0
variable {t : DT} {a : DE} {vs : List Nat} {P : QD}
theorem gather_inv (I : Nat → List D → Mem → Prop) (h0 : I 0 [] M)
    (step : ∀ i x acc M (Ky : QD) (Kn : Mem → Prop), xs[i]? = some x → I i acc M → (∀ y M', G M' → I (i + 1) (acc ++ [y]) M' → G M' ∧ Ky y M') → (∀ M', G M' → I (i + 1) acc M' → G M' ∧ Kn M') →
      g x (wipeD δ vs) M fun δ1 M1 => t δ1 M1 fun b M2 => if b = true then a δ1 M2 fun y M3 => G M3 ∧ Ky y M3 else G M2 ∧ Kn M2)
    (fin : ∀ acc M, I xs.length acc M → P (.lst acc) M) : dGather G g t a vs δ P xs [] M := by
  have key : ∀ k i acc M, i + k = xs.length → I i acc M → dGather G g t a vs δ P (xs.drop i) acc M := by
    intro k
    induction k with
    | zero =>
      intro i acc M e h
      have : i = xs.length := by omega
      subst this
      rw [List.drop_length]
      exact fin acc M h
    | succ k ih =>
      intro i acc M e h
      have hx := at_some (xs := xs) (i := i) (by omega)
      rw [drop_cons hx]
      exact step i _ acc M (fun y M' => dGather G g t a vs δ P (xs.drop (i + 1)) (acc ++ [y]) M') (dGather G g t a vs δ P (xs.drop (i + 1)) acc) hx h (fun y M' g' h' => ⟨g', ih (i + 1) _ M' (by omega) h'⟩) fun M' g' h' => ⟨g', ih (i + 1) _ M' (by omega) h'⟩
  exact key xs.length 0 [] M (by omega) h0
/-- [f(x) for x in xs if p(x)] -/
theorem gather_map {f : D → D} {p : D → Bool}
    (step : ∀ x, x ∈ xs → ∀ (Ky : QD) (Kn : Mem → Prop), (p x = true → Ky (f x) M) → (p x = false → Kn M) → g x (wipeD δ vs) M fun δ1 M1 => t δ1 M1 fun b M2 => if b = true then a δ1 M2 fun y M3 => Ky y M3 else Kn M2)
    (hG : G M) (fin : P (.lst ((xs.filter p).map f)) M) : dGather G g t a vs δ P xs [] M := by
  refine gather_inv (fun i acc M' => M' = M ∧ acc = ((xs.take i).filter p).map f) ⟨rfl, rfl⟩ ?_ ?_
  · rintro i x acc M' Ky Kn hx ⟨rfl, rfl⟩ hy hn
    refine step x (List.mem_of_getElem? hx) (fun y M3 => G M3 ∧ Ky y M3) (fun M3 => G M3 ∧ Kn M3) (fun hp => hy _ _ hG ⟨rfl, ?_⟩) (fun hp => hn _ hG ⟨rfl, ?_⟩)
    · rw [take_snoc hx, List.filter_append, List.map_append]
      simp [hp]
    · rw [take_snoc hx, List.filter_append, List.map_append]
      simp [hp]
  · rintro acc M' ⟨rfl, rfl⟩
    rw [List.take_length]
    exact fin
/-- [f(x) for x in xs] -/
theorem gather_all {f : D → D}
    (step : ∀ x, x ∈ xs → ∀ (Ky : QD), Ky (f x) M → g x (wipeD δ vs) M fun δ1 M1 => a δ1 M1 Ky)
    (hG : G M) (fin : P (.lst (xs.map f)) M) : dGather G g dYes a vs δ P xs [] M := by
  refine gather_inv (fun i acc M' => M' = M ∧ acc = (xs.take i).map f) ⟨rfl, rfl⟩ ?_ ?_
  · rintro i x acc M' Ky Kn hx ⟨rfl, rfl⟩ hy hn
    refine step x (List.mem_of_getElem? hx) (fun y M3 => G M3 ∧ Ky y M3) (hy _ _ hG ⟨rfl, ?_⟩)
    rw [take_snoc hx, List.map_append]
    rfl
  · rintro acc M' ⟨rfl, rfl⟩
    rw [List.take_length]
    exact fin
end
section
variable {δ : Dl} {M : Mem} {P : QD} {a b c : DE} {t : DA} {s u : DS} {nx bk ct : QS} {rt : QD} {g : DG} {k k' : DT} {r r' : DR} {PB : Bool → Mem → Prop} {PA : List D → Mem → Prop} {i j : Nat}
theorem x_var {d : D} (h : δ[i]? = some (some d)) (p : P d M) : dVar i δ M P := ⟨d, h, p⟩
theorem x_c {d : D} (p : P d M) : dC d δ M P := p
theorem x_op (h : a δ M fun x M1 => b δ M1 fun y M2 => r x y M2 P) : dOp r a b δ M P := h
theorem x_nil (p : PA [] M) : dNil δ M PA := p
theorem x_cons (h : a δ M fun x M1 => t δ M1 fun xs M2 => PA (x :: xs) M2) : dCons a t δ M PA := h
theorem x_tup (h : t δ M fun xs M1 => xs.length ≤ sizeLine ∧ P (.tup xs) M1) : dTup t δ M P := h
theorem x_lst (h : t δ M fun xs M1 => xs.length ≤ sizeLine ∧ P (.lst xs) M1) : dLst t δ M P := h
theorem x_lstM (h : t δ M fun xs M1 => xs.length ≤ sizeLine ∧ ∀ a, M1 a = none → P (.ptr a) (mset M1 a (.lst xs))) : dLstM t δ M P := h
theorem x_if (h : k δ M fun q M1 => if q = true then a δ M1 P else b δ M1 P) : dIf k a b δ M P := h
theorem x_B (h : a δ M fun x M1 => ∃ b, x = .bl b ∧ PB b M1) : dB a δ M PB := h
theorem x_and (h : k δ M fun c M1 => if c = true then k' δ M1 PB else PB false M1) : dAnd k k' δ M PB := h
theorem x_or (h : k δ M fun c M1 => if c = true then PB true M1 else k' δ M1 PB) : dOr k k' δ M PB := h
theorem x_not (h : k δ M fun c M1 => PB (!c) M1) : dNot k δ M PB := h
theorem x_andV (h : a δ M fun x M1 => ∃ c, x = .bl c ∧ if c = true then b δ M1 P else P (.bl false) M1) : dAndV a b δ M P := h
theorem x_orV (h : a δ M fun x M1 => ∃ c, x = .bl c ∧ if c = true then P (.bl true) M1 else b δ M1 P) : dOrV a b δ M P := h
theorem x_notV (h : a δ M fun x M1 => ∃ c, x = .bl c ∧ P (.bl (!c)) M1) : dNotV a δ M P := h
theorem x_chain (h : a δ M fun x M1 => b δ M1 fun y M2 => r x y M2 fun z M3 => ∃ k, z = .bl k ∧ if k = true then c δ M3 fun w M4 => r' y w M4 P else P (.bl false) M3) : dChain r r' a b c δ M P := h
theorem x_cb {q : DC} (h : t δ M fun xs M1 => q xs M1 P) : dCB q t δ M P := h
theorem x_then {q : D → Mem → QD → Prop} (h : a δ M fun x M1 => q x M1 P) : dThen a q δ M P := h
theorem x_star (h : a δ M fun x M1 => ∃ xs, (isTF x xs ∨ x = .lst xs ∨ ∃ p, x = .ptr p ∧ M1 p = some (.lst xs)) ∧ t δ M1 fun ys M2 => PA (xs ++ ys) M2) : dStar a t δ M PA := h
theorem x_part {PO : Option Int → Mem → Prop} (h : a δ M fun x M1 => ∃ i, x = .int i ∧ PO (some i) M1) : dPart a δ M PO := h
theorem x_noPart {PO : Option Int → Mem → Prop} (h : PO none M) : dNoPart δ M PO := h
theorem x_sl {l h : DO} (q : a δ M fun x M1 => l δ M1 fun lo M2 => h δ M2 fun hi M3 => rSl1 x lo hi M3 P) : dSl a l h δ M P := q
theorem x_fld {K : PySem.W.Frag} {f : Str} (h : a δ M fun x M1 => rFld1 K f x M1 P) : dFld K a f δ M P := h
theorem x_fldI {K : PySem.W.Frag} {C : Addr} {ns : List Str} {ds : List D} {f : Str} {d : D} (k : Nat) (l1 : ns[k]? = some f) (l2 : ds[k]? = some d) (cl : Cls K C) (n : NoAttr K C f) (l0 : ns.Nodup) (p : P d M) : rFld1 K f (.ins C ns ds) M P := ⟨C, ns, ds, d, .inl rfl, cl, n, ⟨k, l0, l1, l2⟩, p⟩
theorem x_fldQ {K : PySem.W.Frag} {C p : Addr} {fs : List (Str × D)} {f : Str} {d : D} (k : Nat) (hm : M p = some (.ins C fs)) (l1 : (fs.map (·.1))[k]? = some f) (l2 : (fs.map (·.2))[k]? = some d) (cl : Cls K C) (n : NoAttr K C f) (l0 : (fs.map (·.1)).Nodup) (q : P d M) : rFld1 K f (.ptr p) M P :=
  ⟨C, _, _, d, .inr ⟨p, fs, rfl, hm, rfl, rfl⟩, cl, n, ⟨k, l0, l1, l2⟩, q⟩
theorem x_sfld {K : PySem.W.Frag} {f : Str} (h : b δ M fun y M1 => a δ M1 fun x M2 => rPut1 K f x y M2 (nx δ)) : sFldD K a b f nx rt bk ct δ M := h
theorem x_sfldP {K : PySem.W.Frag} {f : Str} {p C : Addr} {fs : List (Str × D)} {y : D} {PM : Mem → Prop} (hm : M p = some (.ins C fs)) (c : Cls K C) (n : NoAttr K C f) (hl : fs.length < 1000) (q : PM (mset M p (.ins C (putD f y fs)))) : rPut1 K f (.ptr p) y M PM := ⟨p, C, fs, rfl, hm, c, n, hl, q⟩
theorem x_sfldQ {K : PySem.W.Frag} {f : Str} {p C : Addr} {fs : List (Str × D)} {y : D} {PM : Mem → Prop} (c : Cls K C) (n : NoAttr K C f) (hl : fs.length < 1000) (q : PM (mset M p (.ins C (putD f y fs)))) : rPut1 K f (.ptr p) y (mset M p (.ins C fs)) PM := ⟨p, C, fs, rfl, mset_same, c, n, hl, by rw [mset_set]; exact q⟩
theorem x_neg (h : a δ M fun x M1 => ∃ i, x = .int i ∧ P (.int (-i)) M1) : dNeg a δ M P := h
theorem x_join (h : a δ M fun x M1 => (∃ z, x = .str z) ∧ b δ M1 fun y M2 => rJoin1 x y M2 P) : dJoin1 a b δ M P := h
theorem x_append (h : a δ M fun x M1 => ∃ l, x = .ptr l ∧ (∃ xs, M1 l = some (.lst xs)) ∧ t δ M1 fun ys M2 => ∃ xs y, ys = [y] ∧ M2 l = some (.lst xs) ∧ xs.length < sizeLine ∧ P .non (mset M2 l (.lst (xs ++ [y])))) : dAppend a t δ M P := h
theorem x_lstRg {q : DRg} (h : q δ M fun a b M1 => RgOk a b ∧ P (.lst (rgD a b)) M1) : dLstRg q δ M P := h
theorem x_rg1 {PR : Int → Int → Mem → Prop} (h : a δ M fun x M1 => ∃ n, x = .int n ∧ PR 0 n M1) : dRg1 a δ M PR := h
theorem x_rg2 {PR : Int → Int → Mem → Prop} (h : a δ M fun x M1 => b δ M1 fun y M2 => ∃ i j, x = .int i ∧ y = .int j ∧ PR i j M2) : dRg2 a b δ M PR := h
theorem x_revL (h : a δ M fun x M1 => ∃ xs, isLs M1 x xs ∧ P (.lst xs.reverse) M1) : dRevL a δ M P := h
theorem x_joinF {ds : List DE} (h : dJs ds Str.empty δ M fun out M1 => P (.str out) M1) : dJoin ds δ M P := h
theorem x_call {sp : DC} (h : t δ M fun ds M1 => sp ds M1 P) : dCall sp t δ M P := h
theorem x_callN {n m : Nat} {sp : DC} {f : List D → List D → List D} {tk : DA} (h : t δ M fun ds M1 => tk δ M1 fun es M2 => ds.length = n ∧ es.length = m ∧ sp (f ds es) M2 P) : dCallN n m sp f t tk δ M P := h
theorem x_meth {C : Addr} {m : Str} {sp : DC} (h : a δ M fun x M1 => (∃ ns xs, isIn M1 x C ns xs ∧ m ∉ ns) ∧ t δ M1 fun ds M2 => sp (x :: ds) M2 P) : dMeth C m sp a t δ M P := h
theorem x_makeK {q : DC} {f : List D → List D} {n : Nat} (h : t δ M fun es M1 => es.length = n ∧ q (f es) M1 P) : dMakeK q f n t δ M P := h
theorem x_lc {di : DI} {vs : List Nat} (h : di δ M fun G xs M1 => G M1 ∧ xs.length ≤ 16777216 ∧ dGather G g k a vs δ P xs [] M1) : dLc di g k a vs δ M P := h
theorem x_yes (h : PB true M) : dYes δ M PB := h
theorem x_next (h : nx δ M) : sNext nx rt bk ct δ M := h
theorem x_seq (h : s (fun δ1 M1 => u nx rt bk ct δ1 M1) rt bk ct δ M) : sSeq s u nx rt bk ct δ M := h
theorem x_break (h : bk δ M) : sBreak nx rt bk ct δ M := h
theorem x_cont (h : ct δ M) : sCont nx rt bk ct δ M := h
theorem x_drop (h : a δ M fun _ M1 => nx δ M1) : sDrop a nx rt bk ct δ M := h
theorem x_ret (h : a δ M rt) : sRet a nx rt bk ct δ M := h
theorem x_retN (h : rt .non M) : sRetN nx rt bk ct δ M := h
theorem x_ifS (h : k δ M fun q M1 => if q = true then s nx rt bk ct δ M1 else u nx rt bk ct δ M1) : sIf k s u nx rt bk ct δ M := h
theorem x_asg (h : a δ M fun x M1 => g x δ M1 nx) : sAsg a g nx rt bk ct δ M := h
theorem x_gN {d : D} (h : nx (δ.set i (some d)) M) : dgN i d δ M nx := h
theorem x_par (h : t δ M fun xs M1 => ∃ x y, xs = [x, y] ∧ nx ((δ.set i (some x)).set j (some y)) M1) : sPar i j t nx rt bk ct δ M := h
theorem x_aug {d : D} (h : δ[i]? = some (some d)) (q : a δ M fun y M1 => r d y M1 fun z M2 => nx (δ.set i (some z)) M2) : sAug i a r nx rt bk ct δ M := ⟨d, h, q⟩
theorem x_for {di : DI} (h : di δ M fun G xs M1 => G M1 ∧ dLoop G g s nx rt xs δ M1) : sFor di g s nx rt bk ct δ M := h
theorem x_gT {n : Nat} {gs : DGs} {xs : List D} (h : xs.length = n) (q : gs xs δ M nx) : dgT n gs (.tup xs) δ M nx := ⟨xs, rfl, h, q⟩
theorem x_gs0 (h : nx δ M) : dgsNil [] δ M nx := ⟨rfl, h⟩
theorem x_gs1 {gs : DGs} {d : D} {ds : List D} (h : g d δ M fun δ1 M1 => gs ds δ1 M1 nx) : dgsCons g gs (d :: ds) δ M nx := ⟨d, ds, rfl, h⟩
theorem x_bl {p : Bool → Prop} {c : Bool} (h : p c) : ∃ b, D.bl c = D.bl b ∧ p b := ⟨c, rfl, h⟩
theorem x_int {p : Int → Prop} {c : Int} (h : p c) : ∃ b, D.int c = D.int b ∧ p b := ⟨c, rfl, h⟩
theorem x_int2 {p : Int → Int → Prop} {c d : Int} (h : p c d) : ∃ a b, D.int c = D.int a ∧ D.int d = D.int b ∧ p a b := ⟨c, d, rfl, rfl, h⟩
theorem x_str0 {z : Str} {p : Prop} (h : p) : (∃ y, D.str z = D.str y) ∧ p := ⟨⟨z, rfl⟩, h⟩
theorem x_two {p : D → D → Prop} {c d : D} (h : p c d) : ∃ a b, [c, d] = [a, b] ∧ p a b := ⟨c, d, rfl, h⟩
theorem x_tr {p : Prop} (h : p) : True ∧ p := ⟨trivial, h⟩
theorem x_addI {x y : Int} (h : P (.int (x + y)) M) : rAdd1 (.int x) (.int y) M P := h
theorem x_I1 {f : Int → Int → D} {x y : Int} (h : P (f x y) M) : V.rI1 f (.int x) (.int y) M P := ⟨x, y, rfl, rfl, h⟩
theorem x_ltI {x y : Int} (h : P (.bl (decide (x < y))) M) : rLt1 (.int x) (.int y) M P := h
theorem x_eqI {x y : Int} (h : P (.bl (decide (x = y))) M) : rEq1 (.int x) (.int y) M P := h
theorem x_eqS {x y : Str} (h : P (.bl (decide (x = y))) M) : rEq1 (.str x) (.str y) M P := h
theorem x_neI {x y : Int} (h : P (.bl (!decide (x = y))) M) : rNe1 (.int x) (.int y) M P := h
theorem x_neS {x y : Str} (h : P (.bl (!decide (x = y))) M) : rNe1 (.str x) (.str y) M P := h
theorem x_isN {x : D} (h : P (.bl (isNon x)) M) : rIsN1 x .non M P := ⟨rfl, h⟩
theorem x_notN {x : D} (h : P (.bl (!isNon x)) M) : rNotN1 x .non M P := ⟨rfl, h⟩
theorem x_isB {x y : Bool} (h : P (.bl (decide (x = y))) M) : rIsB1 (.bl x) (.bl y) M P := ⟨x, y, rfl, rfl, h⟩
theorem x_notB {x y : Bool} (h : P (.bl (!decide (x = y))) M) : rNotB1 (.bl x) (.bl y) M P := ⟨x, y, rfl, rfl, h⟩
theorem x_ixT {xs : List D} {n : Int} {d : D} (h : atI xs n = some d) (p : P d M) : rIx1 (.tup xs) (.int n) M P := ⟨xs, d, .inr (.inl rfl), h, p⟩
theorem x_ixL {xs : List D} {n : Int} {d : D} (h : atI xs n = some d) (p : P d M) : rIx1 (.lst xs) (.int n) M P := ⟨xs, d, .inl rfl, h, p⟩
theorem x_lenT {xs : List D} (p : P (.int xs.length) M) : rLen1 [.tup xs] M P := ⟨_, rfl, xs, .inr (.inl rfl), p⟩
theorem x_lenL {xs : List D} (p : P (.int xs.length) M) : rLen1 [.lst xs] M P := ⟨_, rfl, xs, .inl rfl, p⟩
theorem x_lenS {z : Str} (p : z.length ≤ sizeLine ∧ P (.int z.length) M) : rLen1 [.str z] M P := ⟨_, rfl, p⟩
theorem x_listL {xs : List D} (p : P (.lst xs) M) : rList1 [.lst xs] M P := ⟨_, rfl, xs, .inl rfl, p⟩
theorem x_listT {xs : List D} (p : P (.lst xs) M) : rList1 [.tup xs] M P := ⟨_, rfl, xs, .inr (.inl rfl), p⟩
theorem x_tupL {xs : List D} (p : P (.tup xs) M) : kTup1 (.lst xs) M P := ⟨xs, .inl rfl, p⟩
theorem x_tupT {xs : List D} (p : P (.tup xs) M) : kTup1 (.tup xs) M P := ⟨xs, .inr (.inl rfl), p⟩
theorem x_int1 {f : Int → D} {n : Int} (p : P (f n) M) : rI11 f [.int n] M P := ⟨n, rfl, p⟩
theorem x_int21 {f : Int → Int → D} {n m : Int} (p : P (f n m) M) : rI21 f [.int n, .int m] M P := ⟨n, m, rfl, p⟩
theorem x_slT {xs : List D} {lo hi : Option Int} (p : P (.tup (cutG xs lo hi)) M) : rSl1 (.tup xs) lo hi M P := p
theorem x_slL {xs : List D} {lo hi : Option Int} (p : P (.lst (cutG xs lo hi)) M) : rSl1 (.lst xs) lo hi M P := ⟨xs, .inl rfl, p⟩
theorem x_slS {z : Str} {lo hi : Option Int} (p : z.length ≤ sizeLine ∧ P (.str (cutS z lo hi)) M) : rSl1 (.str z) lo hi M P := p
theorem x_addL {xs ys : List D} (p : xs.length + ys.length ≤ sizeLine ∧ P (.lst (xs ++ ys)) M) : rAdd1 (.lst xs) (.lst ys) M P := ⟨xs, ys, .inl rfl, .inl rfl, p.1, p.2⟩
theorem x_addS {x y : Str} (p : x.length + y.length ≤ sizeLine ∧ P (.str (x ++ y)) M) : rAdd1 (.str x) (.str y) M P := p
theorem x_all {bs : List Bool} (p : P (.bl (bs.all id)) M) : rAll1 [.lst (bs.map D.bl)] M P := ⟨_, bs, rfl, .inl rfl, p⟩
theorem x_diL {PI : (Mem → Prop) → List D → Mem → Prop} {xs : List D} (h : PI (fun _ => True) xs M) : rDiL (.lst xs) M PI := .inl ⟨xs, rfl, h⟩
theorem x_iL {PI : (Mem → Prop) → List D → Mem → Prop} (h : a δ M fun x M1 => rDiL x M1 PI) : diL a δ M PI := h
theorem x_iT {PI : (Mem → Prop) → List D → Mem → Prop} (h : a δ M fun x M1 => ∃ xs, isTF x xs ∧ PI (fun _ => True) xs M1) : diT a δ M PI := h
theorem x_iS {PI : (Mem → Prop) → List D → Mem → Prop} (h : a δ M fun x M1 => ∃ z, x = .str z ∧ PI (fun _ => True) ((cd z).map sgn) M1) : diS a δ M PI := h
theorem x_iR1 {PI : (Mem → Prop) → List D → Mem → Prop} (h : t δ M fun xs M1 => ∃ j : Int, xs = [.int j] ∧ -(2 ^ 62) ≤ j ∧ j < 2 ^ 62 ∧ PI (fun _ => True) (rgD 0 j) M1) : diR1 t δ M PI := h
theorem x_iR2 {PI : (Mem → Prop) → List D → Mem → Prop} (h : t δ M fun xs M1 => ∃ i j : Int, xs = [.int i, .int j] ∧ (-(2 ^ 62) ≤ i ∧ i < 2 ^ 62 ∧ -(2 ^ 62) ≤ j ∧ j < 2 ^ 62) ∧ PI (fun _ => True) (rgD i j) M1) : diR2 t δ M PI := h
theorem x_tfE {p : List D → Prop} {xs : List D} (h : p xs) : ∃ ys, isTF (D.tup xs) ys ∧ p ys := ⟨xs, rfl, h⟩
theorem x_tfF {p : List D → Prop} {xs : List D} (h : p xs) : ∃ ys, isTF (D.ftp xs) ys ∧ p ys := ⟨xs, rfl, h⟩
theorem x_tupE {p : List D → Prop} {xs : List D} (h : p xs) : ∃ ys, D.tup xs = .tup ys ∧ p ys := ⟨xs, rfl, h⟩
theorem x_strE {p : Str → Prop} {xs : Str} (h : p xs) : ∃ ys, D.str xs = .str ys ∧ p ys := ⟨xs, rfl, h⟩
theorem x_r1 {p : Int → Prop} {n : Int} (h : p n) : ∃ j : Int, [D.int n] = [.int j] ∧ p j := ⟨n, rfl, h⟩
theorem x_r2 {p : Int → Int → Prop} {n m : Int} (h : p n m) : ∃ i j : Int, [D.int n, D.int m] = [.int i, .int j] ∧ p i j := ⟨n, m, rfl, h⟩
theorem x_ite (c : Prop) [Decidable c] {A B : Prop} (h1 : c → A) (h2 : ¬ c → B) : if decide c = true then A else B := by
  by_cases z : c
  · rw [decide_eq_true z, if_pos rfl]; exact h1 z
  · rw [decide_eq_false z, if_neg Bool.false_ne_true]; exact h2 z
theorem x_iteT {c : Prop} [Decidable c] {A B : Prop} (z : c) (h : A) : if decide c = true then A else B := by rw [decide_eq_true z, if_pos rfl]; exact h
theorem x_iteF {c : Prop} [Decidable c] {A B : Prop} (z : ¬ c) (h : B) : if decide c = true then A else B := by rw [decide_eq_false z, if_neg Bool.false_ne_true]; exact h
theorem x_itenT {c : Prop} [Decidable c] {A B : Prop} (z : ¬ c) (h : A) : if (!decide c) = true then A else B := by rw [decide_eq_false z]; exact h
theorem x_itenF {c : Prop} [Decidable c] {A B : Prop} (z : c) (h : B) : if (!decide c) = true then A else B := by rw [decide_eq_true z]; exact h
theorem x_true {A B : Prop} (h : A) : if true = true then A else B := by rw [if_pos rfl]; exact h
theorem x_false {A B : Prop} (h : B) : if false = true then A else B := by rw [if_neg Bool.false_ne_true]; exact h
theorem x_nfalse {A B : Prop} (h : A) : if (!false) = true then A else B := by simpa using h
theorem x_ntrue {A B : Prop} (h : B) : if (!true) = true then A else B := by simpa using h
end
end V
namespace V
open PySem PySem.Spec PyProof.Rows L2 U StX
def enumD (xs : List D) : List D := xs.mapIdx fun i d => .tup [.int (i : Nat), d]
def zipD (xs ys : List D) : List D := (xs.zip ys).map fun p => .tup [p.1, p.2]
def diET (a : DA) : DI := fun δ M P => a δ M fun vs M1 => ∃ x xs, vs = [x] ∧ isTF x xs ∧ P (fun _ => True) (enumD xs) M1
def diE (a : DA) : DI := fun δ M P => a δ M fun vs M1 => ∃ xs, vs = [.lst xs] ∧ P (fun _ => True) (enumD xs) M1
def diZ (a : DA) : DI := fun δ M P => a δ M fun vs M1 => ∃ xs ys, vs = [.lst xs, .lst ys] ∧ P (fun _ => True) (zipD xs ys) M1
section
variable {δ : Dl} {M : Mem} {t : DA} {PI : (Mem → Prop) → List D → Mem → Prop}
theorem x_tf1 {p : List D → Prop} {ys : List D} (h : p ys) : ∃ x xs, [D.tup ys] = [x] ∧ isTF x xs ∧ p xs := ⟨_, ys, rfl, rfl, h⟩
theorem x_tf1F {p : List D → Prop} {ys : List D} (h : p ys) : ∃ x xs, [D.ftp ys] = [x] ∧ isTF x xs ∧ p xs := ⟨_, ys, rfl, rfl, h⟩
theorem x_iET (h : t δ M fun vs M1 => ∃ x xs, vs = [x] ∧ isTF x xs ∧ PI (fun _ => True) (enumD xs) M1) : diET t δ M PI := h
theorem x_iE (h : t δ M fun vs M1 => ∃ xs, vs = [.lst xs] ∧ PI (fun _ => True) (enumD xs) M1) : diE t δ M PI := h
theorem x_iZ (h : t δ M fun vs M1 => ∃ xs ys, vs = [.lst xs, .lst ys] ∧ PI (fun _ => True) (zipD xs ys) M1) : diZ t δ M PI := h
theorem x_tup1 {p : List D → Prop} {xs : List D} (h : p xs) : ∃ ys, [D.tup xs] = [.tup ys] ∧ p ys := ⟨xs, rfl, h⟩
theorem x_lst1 {p : List D → Prop} {xs : List D} (h : p xs) : ∃ ys, [D.lst xs] = [.lst ys] ∧ p ys := ⟨xs, rfl, h⟩
theorem x_lst2 {p : List D → List D → Prop} {xs ys : List D} (h : p xs ys) : ∃ us vs, [D.lst xs, D.lst ys] = [.lst us, .lst vs] ∧ p us vs := ⟨xs, ys, rfl, h⟩
theorem x_starT {p : List D → Prop} {xs : List D} (h : p xs) : ∃ us, (isTF (D.tup xs) us ∨ D.tup xs = .lst us ∨ ∃ p, D.tup xs = .ptr p ∧ M p = some (.lst us)) ∧ p us := ⟨xs, .inl rfl, h⟩
theorem x_starF {p : List D → Prop} {xs : List D} (h : p xs) : ∃ us, (isTF (D.ftp xs) us ∨ D.ftp xs = .lst us ∨ ∃ p, D.ftp xs = .ptr p ∧ M p = some (.lst us)) ∧ p us := ⟨xs, .inl rfl, h⟩
theorem x_starL {p : List D → Prop} {xs : List D} (h : p xs) : ∃ us, (isTF (D.lst xs) us ∨ D.lst xs = .lst us ∨ ∃ p, D.lst xs = .ptr p ∧ M p = some (.lst us)) ∧ p us := ⟨xs, .inr (.inl rfl), h⟩
variable {P : QD}
theorem x_eqIN {x : Int} (h : P (.bl false) M) : rEq1 (.int x) .non M P := h
theorem x_eqNI {x : Int} (h : P (.bl false) M) : rEq1 .non (.int x) M P := h
theorem x_eqSN {x : Str} (h : P (.bl false) M) : rEq1 (.str x) .non M P := h
theorem x_eqNS {x : Str} (h : P (.bl false) M) : rEq1 .non (.str x) M P := h
theorem x_eqNN (h : P (.bl true) M) : rEq1 .non .non M P := h
theorem x_eqBB {x y : Bool} (h : P (.bl (decide (x = y))) M) : rEq1 (.bl x) (.bl y) M P := h
theorem x_neIN {x : Int} (h : P (.bl true) M) : rNe1 (.int x) .non M P := h
theorem x_neNI {x : Int} (h : P (.bl true) M) : rNe1 .non (.int x) M P := h
theorem x_neSN {x : Str} (h : P (.bl true) M) : rNe1 (.str x) .non M P := h
theorem x_neNS {x : Str} (h : P (.bl true) M) : rNe1 .non (.str x) M P := h
theorem x_neNN (h : P (.bl false) M) : rNe1 .non .non M P := h
theorem x_neBB {x y : Bool} (h : P (.bl (!decide (x = y))) M) : rNe1 (.bl x) (.bl y) M P := h
end
end V
namespace V
open PySem PySem.Spec PyProof.Rows L2 U StX
/-- '0' at one place, '.' at all others -/
def wCode (c : Option Nat) (i : Nat) : Nat := if c = some i then 48 else 46
/-- what a part of a plan shows of a candidate -/
def fv (c : Option Nat) : D → D
  | .int i => sgn (wCode c i.toNat)
  | d => d
end V
namespace V
open PySem PySem.Spec PyProof.Rows L2 U StX RZ
section
variable {K : PySem.W.Frag} {tt : TA} {dd : DA}
def diZT (a : DA) : DI := fun δ M P => a δ M fun vs M1 => ∃ xs ys, vs = [.tup xs, .tup ys] ∧ P (fun _ => True) (zipD xs ys) M1
end
def sPar3 (i j l : Nat) (t : DA) : DS := fun nx _ _ _ δ M => t δ M fun xs M1 => ∃ x y z, xs = [x, y, z] ∧ nx (((δ.set i (some x)).set j (some y)).set l (some z)) M1
theorem x_par3 {i j l : Nat} {t : DA} {nx bk ct : QS} {rt : QD} {δ : Dl} {M : Mem} (h : t δ M fun xs M1 => ∃ x y z, xs = [x, y, z] ∧ nx (((δ.set i (some x)).set j (some y)).set l (some z)) M1) : sPar3 i j l t nx rt bk ct δ M := h
theorem x_three {p : D → D → D → Prop} {c d e : D} (h : p c d e) : ∃ x y z, [c, d, e] = [x, y, z] ∧ p x y z := ⟨c, d, e, rfl, h⟩
def rMulS1 : DR := fun x y M P => ∃ z n, x = .str z ∧ y = .int n ∧ z.length ≤ 2000 ∧ 0 ≤ n ∧ n ≤ 8000 ∧ P (.str (Txt.mul z n)) M
instance op_mulS1 : OpD rMulS rMulS1 := ⟨fun S M H x y dx dy P Q w hx hy h k => by
  obtain ⟨z, n, rfl, rfl, h1, h2, h3, p⟩ := h
  cases hx; cases hy
  exact ⟨z, n, rfl, rfl, h1, h2, h3, k _ S M _ H p .refl w (.str _)⟩⟩
theorem x_iZT {δ : Dl} {M : Mem} {t : DA} {PI : (Mem → Prop) → List D → Mem → Prop} (h : t δ M fun vs M1 => ∃ xs ys, vs = [.tup xs, .tup ys] ∧ PI (fun _ => True) (zipD xs ys) M1) : diZT t δ M PI := h
theorem x_tup2 {p : List D → List D → Prop} {xs ys : List D} (h : p xs ys) : ∃ us vs, [D.tup xs, D.tup ys] = [.tup us, .tup vs] ∧ p us vs := ⟨xs, ys, rfl, h⟩
end V
namespace V
open PySem PySem.Spec PyProof.Rows L2 U StX
end V
namespace V
open PySem PySem.Spec PyProof.Rows L2 U StX
theorem nlow : ∀ (k : Nat) (l : List Nat), (∀ c ∈ l, 46 ≤ c ∧ c ≠ 47) → l.length = k → ¬ l < List.replicate k 46
  | 0, l, _, _ => List.not_lt_nil l
  | k + 1, [], _, h => by simp at h
  | k + 1, x :: t, hc, h => by
    rw [List.replicate_succ, List.cons_lt_cons_iff]
    rintro (z | ⟨_, z⟩)
    · have := (hc x (by simp)).1; omega
    · exact nlow k t (fun c h => hc c (by simp [h])) (by simpa using h) z
theorem low : ∀ (m k : Nat) (l : List Nat), (∀ c ∈ l, 46 ≤ c ∧ c ≠ 47) → l.length = m + 1 + k → l < List.replicate m 46 ++ 48 :: List.replicate k 46 → ∀ a, a ≤ m → l[a]? = some 46
  | _, _, [], _, h, _, _, _ => by simp at h; omega
  | 0, k, x :: t, hc, h, lt, a, ha => by
    have e : a = 0 := by omega
    subst e
    have hx := hc x (by simp)
    simp only [List.replicate_zero, List.nil_append, List.cons_lt_cons_iff] at lt
    rcases lt with z | ⟨_, z⟩
    · have : x = 46 := by omega
      rw [this]; rfl
    · exact (nlow k t (fun c h => hc c (by simp [h])) (by simp at h; omega) z).elim
  | m + 1, k, x :: t, hc, h, lt, a, ha => by
    have hx := hc x (by simp)
    simp only [List.replicate_succ, List.cons_append, List.cons_lt_cons_iff] at lt
    rcases lt with z | ⟨e, z⟩
    · omega
    · cases a with
      | zero => rw [e]; rfl
      | succ a => exact low m k t (fun c h => hc c (by simp [h])) (by simp at h; omega) z a (by omega)
end V
namespace V
open PySem PySem.Spec PyProof.Rows L2 U StX
section
variable {S S' : Addr → Prop} {M M' M0 : Mem} {H H' : Hp}
theorem Step.less (t : Step S M H S' M' H') (l : Mle M0 M') : Step S M H S' M0 H' := ⟨fun b o h e => by
  obtain ⟨e1, h1, s1⟩ := t.keep b o h e
  refine ⟨e1, ?_, s1⟩
  cases z : M0 b with
  | none => rfl
  | some mo => rw [l b mo z] at h1; cases h1⟩
variable {P : Program} {w : World} {K : PySem.W.Frag} {mg : Str → Option Value} {base : Heap} {x qual : Str} {st : Stmt} {f : Addr} {fd : FuncData} {N ps : List Str} {k : Nat} {sp : DC}
theorem mle_refl : Mle M M := fun _ _ h => h
theorem mle_set {a : Addr} {o : MO} (h : M a = none) : Mle M (mset M a o) := fun b mo e => by
  rw [mset_ne (fun z => by rw [z, h] at e; cases e)]
  exact e
end
end V
namespace V
open PySem PySem.Spec PyProof.Rows L2 U StX
theorem cd_get {x : Str} {i c : Nat} (h : x.cps[i]? = some c) : (cd x)[i]? = some c := by
  show x.cps.toList[i]? = some c
  rw [Array.getElem?_toList]; exact h
end V
namespace V
open PySem PySem.Spec PyProof.Rows L2 U StX
end V
namespace V
open PySem PySem.Spec PyProof.Rows L2 U StX
end V
namespace V
open PySem PySem.Spec PyProof.Rows L2 U StX
end V
namespace V
open PySem PySem.Spec PyProof.Rows L2 U StX
end V
namespace V
open PySem PySem.Spec PyProof.Rows L2 U StX
structure PyBg (W k : Nat) (p : PyData) : Prop where
  lay : p.canLay0 = true
  itx : PyData.intsShort 1000 p = true
  sh : PyData.showable p = true
  nd : PyData.hasDict p = false
  dep : PyData.depth p ≤ k
  wt : PyData.weight p ≤ W
structure PysBg (W k : Nat) (ps : List PyData) : Prop where
  lay : PyData.canLayAll0 ps = true
  itx : PyData.intsShortAll 1000 ps = true
  sh : PyData.showableAll ps = true
  nd : PyData.hasDictAll ps = false
  dep : PyData.depthAll ps ≤ k
  wt : PyData.weightAll ps ≤ W
theorem PysBg.nil (W k : Nat) : PysBg W k [] := ⟨rfl, rfl, rfl, rfl, Nat.zero_le _, Nat.zero_le _⟩
theorem PysBg.cons {W W' k : Nat} {p : PyData} {ps : List PyData} (a : PyBg W k p) (b : PysBg W' k ps) : PysBg (W + 1 + W') k (p :: ps) := by
  obtain ⟨a1, a2, a3, a4, a5, a6⟩ := a
  obtain ⟨b1, b2, b3, b4, b5, b6⟩ := b
  refine ⟨?_, ?_, ?_, ?_, ?_, ?_⟩
  · rw [PyData.canLayAll0, a1, b1]; rfl
  · rw [PyData.intsShortAll, a2, b2]; rfl
  · rw [PyData.showableAll, a3, b3]; rfl
  · rw [PyData.hasDictAll, a4, b4]; rfl
  · rw [PyData.depthAll]; omega
  · rw [PyData.weightAll]; omega
theorem PyBg.mono {W W' k k' : Nat} {p : PyData} (a : PyBg W k p) (h : W ≤ W') (h2 : k ≤ k') : PyBg W' k' p := ⟨a.lay, a.itx, a.sh, a.nd, Nat.le_trans a.dep h2, Nat.le_trans a.wt h⟩
theorem PysBg.list {W k : Nat} {ps : List PyData} (a : PysBg W k ps) : PyBg W (k + 1) (.list ps) :=
  ⟨by rw [PyData.canLay0]; exact a.lay, by rw [PyData.intsShort]; exact a.itx, by rw [PyData.showable]; exact a.sh, by rw [PyData.hasDict]; exact a.nd, by rw [PyData.depth]; have := a.dep; omega, by rw [PyData.weight]; exact a.wt⟩
theorem PysBg.tuple {W k : Nat} {ps : List PyData} (a : PysBg W k ps) : PyBg W (k + 1) (.tuple ps) :=
  ⟨by rw [PyData.canLay0]; exact a.lay, by rw [PyData.intsShort]; exact a.itx, by rw [PyData.showable]; exact a.sh, by rw [PyData.hasDict]; exact a.nd, by rw [PyData.depth]; have := a.dep; omega, by rw [PyData.weight]; exact a.wt⟩
theorem PyBg.int {i : Int} {b : Nat} (h : i.natAbs < 2 ^ b) (h0 : 0 < b) (hb : b ≤ 900) : PyBg b 0 (.int i) := by
  have l : i.natAbs.log2 < b := by
    by_cases z : i.natAbs = 0
    · rw [z]; exact h0
    · exact (Nat.log2_lt z).mpr h
  refine ⟨rfl, ?_, ?_, rfl, by rw [PyData.depth]; exact Nat.le_refl _, ?_⟩
  · rw [PyData.intsShort]
    have e := int_text_length_le (k := b) h0 l
    refine decide_eq_true ?_
    show (Str.ofString (toString i)).length ≤ 1000
    rw [PySem.ofString_length]
    omega
  · rw [PyData.showable]
    exact decide_eq_true (by omega)
  · rw [PyData.weight]
    split <;> omega
def bgP (W k : Nat) (d : D) : Prop := ∃ p, D.py d = some p ∧ PyBg W k p
def bgPs (W k : Nat) (ds : List D) : Prop := ∃ ps, D.pys ds = some ps ∧ PysBg W k ps
theorem bgPs.nil (W k : Nat) : bgPs W k [] := ⟨[], by rw [D.pys], .nil _ _⟩
theorem bgPs.cons {W W' k : Nat} {d : D} {ds : List D} : bgP W k d → bgPs W' k ds → bgPs (W + 1 + W') k (d :: ds) := fun ⟨p, e, a⟩ ⟨ps, e2, b⟩ => ⟨p :: ps, by rw [D.pys, e, e2], .cons a b⟩
theorem bgPs.all {W k : Nat} : ∀ {ds : List D}, (∀ d ∈ ds, bgP W k d) → bgPs (ds.length * (W + 1)) k ds
  | [], _ => bgPs.nil _ _
  | d :: ds, h => by
    obtain ⟨ps, e, a⟩ := bgPs.cons (h d List.mem_cons_self) (bgPs.all fun x hx => h x (List.mem_cons_of_mem _ hx))
    have q : (ds.length + 1) * (W + 1) = W + 1 + ds.length * (W + 1) := by rw [Nat.add_mul, Nat.one_mul, Nat.add_comm]
    rw [List.length_cons, q]
    exact ⟨ps, e, a⟩
theorem bgPs.list {W k : Nat} {ds : List D} : bgPs W k ds → bgP W (k + 1) (.lst ds) := fun ⟨ps, e, a⟩ => ⟨.list ps, by rw [D.py, e]; rfl, a.list⟩
theorem bgPs.tuple {W k : Nat} {ds : List D} : bgPs W k ds → bgP W (k + 1) (.tup ds) := fun ⟨ps, e, a⟩ => ⟨.tuple ps, by rw [D.py, e]; rfl, a.tuple⟩
theorem bgP.mono {W W' k k' : Nat} {d : D} : bgP W k d → W ≤ W' → k ≤ k' → bgP W' k' d := fun ⟨p, e, a⟩ h h2 => ⟨p, e, a.mono h h2⟩
theorem bgP.int {i : Int} {b : Nat} (h : i.natAbs < 2 ^ b) (h0 : 0 < b := by decide) (hb : b ≤ 900 := by decide) : bgP b 0 (.int i) := ⟨_, by rw [D.py], .int h h0 hb⟩
theorem bgP.bl (b : Bool) : bgP 0 0 (.bl b) := ⟨_, by rw [D.py], ⟨rfl, rfl, rfl, rfl, by rw [PyData.depth]; exact Nat.le_refl _, by rw [PyData.weight]; exact Nat.le_refl _⟩⟩
theorem bgP.non : bgP 0 0 .non := ⟨_, by rw [D.py], ⟨rfl, rfl, rfl, rfl, by rw [PyData.depth]; exact Nat.le_refl _, by rw [PyData.weight]; exact Nat.le_refl _⟩⟩
theorem bgP.str {z : Str} {n : Nat} (h : ∀ c ∈ cd z, c < 0x110000) (hn : (cd z).length ≤ n) : bgP n 0 (.str z) := by
  refine ⟨_, by rw [D.py], ?_, rfl, rfl, rfl, by rw [PyData.depth]; exact Nat.le_refl _, ?_⟩
  · rw [PyData.canLay0]
    unfold PyData.strOk
    rw [← Array.all_toList, List.all_eq_true]
    exact fun c hc => decide_eq_true (h c hc)
  · rw [PyData.weight]
    rw [cd_len] at hn
    exact hn
end V
namespace V
open PySem PySem.Spec PyProof.Rows L2 U StX
end V
namespace V
open PySem PySem.Spec PyProof.Rows L2 U StX
end V
namespace V
open PySem PySem.Spec PyProof.Rows L2 U StX
end V
namespace V
open PySem PySem.Spec PyProof.Rows L2 U StX
end V
namespace V
open PySem PySem.Spec PyProof.Rows L2 U StX
end V
namespace V
open PySem PySem.Spec PyProof.Rows L2 U StX
end V
namespace V
open PySem PySem.Spec PyProof.Rows L2 U StX
end V
namespace V
open PySem PySem.Spec PyProof.Rows L2 U StX
end V
namespace V
open PySem PySem.Spec PyProof.Rows L2 U StX
theorem mle_put {M M' : Mem} {b : Addr} {o : MO} (h : Mle M M') (n : M b = none) : Mle M (mset M' b o) := fun a mo e => by
  rw [mset_ne (fun z => by rw [z, n] at e; cases e)]
  exact h a mo e
end V
namespace V
open PySem PySem.Spec PyProof.Rows L2 U StX
section
variable {X : Cx} {pins : List (Addr × Obj)} {σ : L2.St} {H : Hp} {s : Shared} {n : Nat} {f : Addr} {fd : FuncData} {ps : List Str} {sp : Sp} {a C : Addr} {y : V} {v : Value} {Q : VK}
/-- the __eq__ is called with anything -/
theorem run_own2 (F : FnOk X.prog X.w X.K X.mg X.base L2.CX0 n f fd ps sp) (hb : Binds X.K fd ps []) {A : Around} (sb : Sub X n A) (I : Inv X pins σ H s) (ry : RelV y v) (h : sp [.ref a, y] H Q L2.E0) :
    wpAny (model X.prog X.w) A (call (.ref f) [.ref a, v]) (EP X pins σ Q) X.xe s := by
  have env : Env0 X.prog X.w X.K X.mg X.base A X.stack s H := by
    have e := I.env0
    exact { frames := (by rw [sb.fr]; exact e.frames), mod := e.mod, bs := e.bs, bsz := e.bsz, funs := e.funs, frf := e.frf, hok := e.hok, bare := e.bare }
  have len := F.len _ _ _ _ h
  have vals : Vals [V.ref a, y] [Value.ref a, v] := .cons rfl (.cons ry .nil)
  have bnd := hb s [.ref a, v] I.kIn (by simpa using len)
  refine wpAny_call (codeAny_mono (F.run A X.stack s H ⟨[.ref a, v], []⟩ _ _ _ _ sb.room env (by simpa using bnd) vals h) fun r s' hq => ?_)
  match r with
  | .error e => exact pass0 pins σ H s e s' I hq
  | .ok (.ret u) =>
    obtain ⟨z, H', I', rz, q⟩ := I.after hq
    exact ⟨z, H', I', rz, q⟩
  | .ok .next => exact hq.elim
  | .ok .brk => exact hq.elim
  | .ok .cont => exact hq.elim
/-- what the other thing may be -/
inductive Oth (C : Addr) (H : Hp) : V → Value → Prop
  | non : Oth C H .non (.type "NoneType")
  | str (x : Str) : Oth C H (.str x) (.type "str")
  | tup {b : Addr} {xs : List V} : H b = some (.tup xs) → Oth C H (.ref b) (.type "tuple")
  | ins {b dx : Addr} {fs : List (Str × V)} : H b = some (.ins C dx fs) → Oth C H (.ref b) (.ref C)
theorem oth_look {tb : Value} (o : Oth C H y tb) (I : Inv X pins σ H s) (ry : RelV y v) : PySem.W.Looks (model X.prog X.w) s.heap (typeOf v) tb := by
  cases o with
  | non =>
    obtain rfl : v = .none := ry
    exact PySem.W.Looks.of_pure rfl
  | str x =>
    obtain ⟨t, rfl⟩ := ry
    exact PySem.W.Looks.of_pure rfl
  | tup h =>
    cases ry
    obtain ⟨_, its, _, ob, e, c, _⟩ := (show ObjOk X.prog X.w H s.heap _ (.tup _) from I.hok _ _ h)
    exact fun A Q E s' k q => wpAny_typeOf (T := "tuple") ⟨ob, k _ _ e, c⟩ q
  | ins h =>
    cases ry
    obtain ⟨mB, J, _⟩ := ins_get I.hok h
    obtain ⟨ob, J, _⟩ := J.look
    exact J.type
/-- the K's word on the other thing's class -/
structure NoSub (K : PySem.W.Frag) (C : Addr) : Prop where
  non : PySem.W.subIn K (.type "NoneType") (.ref C) = some false
  str : PySem.W.subIn K (.type "str") (.ref C) = some false
  tup : PySem.W.subIn K (.type "tuple") (.ref C) = some false
theorem NoSub.first {K : PySem.W.Frag} {tb : Value} (N : NoSub K C) (o : Oth C H y tb) : PySem.W.notFirst K C tb = true := by
  unfold PySem.W.notFirst
  cases o with
  | non => rw [N.non]; rfl
  | str x => rw [N.str]; rfl
  | tup h => rw [N.tup]; rfl
  | ins h => simp
end
end V
namespace V
open PySem PySem.Spec PyProof.Rows L2 U StX
end V
namespace V
open PySem PySem.Spec PyProof.Rows L2 U StX
end V
namespace V
open PySem PySem.Spec PyProof.Rows L2 U StX
end V
namespace V
open PySem PySem.Spec PyProof.Rows L2 U StX
end V
namespace V
open PySem PySem.Spec PyProof.Rows L2 U StX
end V
namespace V
open PySem PySem.Spec PyProof.Rows L2 U StX
end V
namespace V
open PySem PySem.Spec PyProof.Rows L2 U StX
end V
namespace V
open PySem PySem.Spec PyProof.Rows L2 U StX
end V
namespace V
open PySem PySem.Spec PyProof.Rows L2 U StX
end V
namespace V
open PySem PySem.Spec PyProof.Rows L2 U StX
end V
namespace V
open PySem PySem.Spec PyProof.Rows L2 U StX
end V
namespace V
open PySem PySem.Spec PyProof.Rows L2 U StX
end V
namespace V
open PySem PySem.Spec PyProof.Rows L2 U StX
section
variable {X : Cx}
/-- t.index(x), all ints or all texts: the first place -/
def rTIdx (K : PySem.W.Frag) : V → List V → Hp → VK → Prop := fun x xs H Q => ∃ p j, x = .ref p ∧ ((∃ (ys : List Str) (z : Str), xs = [.str z] ∧ SqT K H p (ys.map V.str) ∧ ys[j]? = some z ∧ (∀ m, m < j → ys[m]? ≠ some z)) ∨
  ∃ (ys : List Int) (z : Int), xs = [.int z] ∧ SqT K H p (ys.map V.int) ∧ ys[j]? = some z ∧ (∀ m, m < j → ys[m]? ≠ some z)) ∧ Q (.int (j : Nat)) H
theorem flat_ints (ys : List Int) : (ys.map V.int).all flatV = true := by
  rw [List.all_map]
  exact List.all_eq_true.mpr fun _ _ => rfl
theorem mt_tidx {K : PySem.W.Frag} (hK : X.K = K) : MtR X "tuple.index" (rTIdx K) := by
  subst hK
  intro pins s σ H x xs v us Q I rx rs h
  obtain ⟨p, j, rfl, ⟨ys, z, rfl, hq, hy, hno⟩ | ⟨ys, z, rfl, hq, hy, hno⟩, q⟩ := h
  · exact mt_tup_index pins s σ H _ _ v us Q I rx rs ⟨p, ys, z, j, rfl, rfl, hq, hy, hno, q⟩
  cases rx
  obtain ⟨u, rfl, t, rfl⟩ := vals1 rs
  obtain ⟨its, r, pl, hz⟩ := I.tuple hq
  obtain ⟨⟨cls, dd, dt, sl⟩, ho, hc, n, hd⟩ := pl
  simp only at hc hd
  subst hc
  subst hd
  have hl : its.toArray.size = ys.length := by rw [List.size_toArray, ← r.length, List.length_map]
  have hj : j < its.toArray.size := by rw [hl]; exact (List.getElem?_eq_some_iff.mp hy).1
  have at' : ∀ (m : Nat) (hm : m < its.toArray.size), ∃ y t', ys[m]? = some y ∧ its.toArray[m] = Value.int y t' := fun m hm => by
    have hm' : m < ys.length := by rw [← hl]; exact hm
    obtain ⟨w, hw, t', hw'⟩ := r.get (i := m) (x := .int ys[m]) (by simp [hm'])
    refine ⟨ys[m], t', List.getElem?_eq_getElem hm', ?_⟩
    have e := (List.getElem?_eq_some_iff.mp hw).2
    rw [← hw', ← e]
    simp
  refine call_meets PySem.F.slot_tuple_index ⟨_, ho, rfl⟩ PySem.F.entry_tuple_index (PySem.F.args_tuple_index_2 _ _) (TI.tuple_indexAt p its.toArray n dd sl (.int z t) (eqU (.int z)) j hj ?_ ?_)
    ⟨ho, fun w hw => mem_eqAt (x := .int z) ⟨t, rfl⟩ rfl r (flat_ints ys) w (by simpa using hw), ⟨.int (j : Nat), H, I.tok _, ⟨_, rfl⟩, q⟩⟩
  · obtain ⟨y, t', h1, h2⟩ := at' j hj
    rw [hy] at h1
    cases h1
    rw [h2]
    show (z == z) = true
    exact beq_self_eq_true z
  · intro m hm hmj
    obtain ⟨y, t', h1, h2⟩ := at' m hm
    rw [h2]
    show (y == z) = false
    exact beq_eq_false_iff_ne.mpr fun e => hno m hmj (e ▸ h1)
end
/-- t.index(x), t such a tuple -/
def tTIdx (K : PySem.W.Frag) (to : TE) (t : TA) : TE := fun σ H Q => to σ H fun x H1 => (∃ p o xs, x = .ref p ∧ H1 p = some (.frz o (.tup xs)) ∧ o.dict = none) ∧ t σ H1 fun xs H2 => rTIdx K x xs H2 Q
section
variable {X : Cx} {o e : Expr} {es : List Expr} {to : TE} {t : TA} {apos cpos : Pos}
theorem pe_tidx {K : PySem.W.Frag} (hK : X.K = K) (ho : PE X o to) (ha : PA X (e :: es) t)
    (hbase : attributeBase o "index" X.env (eval o X.env) = eval o X.env := by rfl)
    (hfew : ((backTo cpos (starEach (e :: es) X.env)).all (fun x => !x.1) && (backToKw cpos (keywordEach [] X.env)).all (fun x => x.1.isSome)
      && decide ((e :: es).length + ([] : List Keyword).length + (if ([] : List Keyword).isEmpty then 0 else 1) < 30)) = true := by rfl)
    (hline : (apos.endLine == cpos.line) = true := by rfl) (hs : starEach (e :: es) X.env = (false, eval e X.env) :: starEach es X.env := by rfl) (hplain : (backTo cpos (starEach es X.env)).any (·.1) = false := by rfl) :
    PE X (.Call (.Attribute o "index" apos) (e :: es) [] cpos) (tTIdx K to t) := by
  subst hK
  refine ⟨fun pins s σ H Q I h => ?_⟩
  refine wpAny_Call_method_late hbase hfew hline rfl (thn (ho.run pins s σ H _ I h) fun v s1 ⟨x, H1, I1, r1, ⟨p, ob, xs, ex, hp, hd⟩, q1⟩ => ?_)
  subst ex
  obtain rfl : v = .ref p := r1
  obtain ⟨ho1, hz, its, rv, o2, ho2, hc2, n2, hd2⟩ := I1.hok p _ hp
  refine ⟨"tuple", "tuple.index", PySem.F.plainAttrs_tuple, PySem.F.slot_tuple_index, PySem.F.type_tuple_index, ⟨_, ho2, hc2⟩, fun a ea => ?_, ?_⟩
  · cases ea
    exact ⟨ob, ho1, hd⟩
  · have hA := ha.run cpos pins s1 σ H1 _ I1 q1
    rw [hs] at hA ⊢
    refine Calls.callWith_builtin (by show (false || (backTo cpos (starEach es X.env)).any (·.1)) = false; rw [hplain] <;> rfl) (Calls.evalArgs_plain ?_)
    exact thn hA fun us s2 ⟨vs, H2, I2, r2, q2⟩ => mt_tidx rfl pins s2 σ H2 (.ref p) vs (.ref p) us Q I2 rfl r2 q2
/-- (.., ..), a tuple known to have no dict -/
def tTupF (t : TA) : TE := fun σ H Q => t σ H fun xs H1 => xs.length ≤ sizeLine ∧ ∀ p o, H1 p = none → o.dict = none → Q (.ref p) (upd H1 p (.frz o (.tup xs)))
theorem pe_tupF {x1} {pos : Pos} (h : PA X es t) : PE X (.Tuple es x1 pos) (tTupF t) := by
  refine ⟨fun pins s σ H Q I hq => ?_⟩
  refine wpAny_Tuple_spliced (thn (h.run pos pins s σ H _ I hq) fun us s1 ⟨xs, H1, I1, r, z, q⟩ => ⟨by rw [← r.length]; exact z, ?_⟩)
  have hf : H1 s1.heap.objs.size = none := I1.hok.fresh (Nat.le_refl _)
  exact ⟨.ref s1.heap.objs.size, upd H1 s1.heap.objs.size (.frz { cls := .type "tuple", data := .seq us.toArray } (.tup xs)), I1.laid (t' := s1.toks) (fun b u e => Heap.get?_push_of_some _ e) (Nat.le_refl _)
    (show ObjOk X.prog X.w _ _ _ (.frz _ (.tup xs)) from ⟨Heap.get?_push_size _ rfl, z, us, r, ⟨_, Heap.get?_push_size _ rfl, rfl, _, rfl⟩⟩), rfl, q _ _ hf rfl⟩
/-- tuple(xs), xs a list: a tuple known to have no dict -/
def kTupF (K : PySem.W.Frag) (x : V) (H : Hp) (Q : VK) : Prop := ∃ p xs, x = .ref p ∧ SqL K H p xs ∧ ∀ q o, H q = none → o.dict = none → Q (.ref q) (upd H q (.frz o (.tup xs)))
theorem pe_tupOfF {K : PySem.W.Frag} {a : Expr} {ta : TE} (hK : X.K = K) {p pos : Pos} (hg : Gl X "tuple") (hm : X.mg "tuple" = none) (ha : PE X a ta) (na : starEach [a] X.env = (false, eval a X.env) :: starEach [] X.env := by rfl) :
    PE X (.Call (.Name "tuple" p) [a] [] pos) (tThen ta (kTupF K)) := by
  subst hK
  refine ⟨fun pins s σ H Q I h => ?_⟩
  refine Call_ (ld_blt I hg hm boot_tuple (PyProof.Rows.callWith_type1 (one_arg ha I h (fun v s2 x H2 I2 r q => ?_) na) na))
  obtain ⟨p, xs, rfl, hs, q⟩ := q
  obtain rfl : v = .ref p := r
  obtain ⟨its, rv, pl, hz⟩ := I2.list hs
  refine call_tuple_list pl.isList (fun h' hk => ?_) (by rw [List.size_toArray, ← rv.length]; exact hz)
  have I1 : Inv X pins σ H2 { s2 with heap := h' } := I2.kept (t' := s2.toks) hk
  have I3 : Inv X pins σ (upd H2 h'.objs.size (.frz { cls := .type "tuple", data := .seq its.toArray } (.tup xs))) { s2 with heap := h'.push { cls := .type "tuple", data := .seq its.toArray } } :=
    I1.laid (t' := s2.toks) (fun b o e => Heap.get?_push_of_some _ e) (Nat.le_refl _) (show ObjOk X.prog X.w _ _ _ (.frz _ (.tup xs)) from ⟨Heap.get?_push_size _ rfl, hz, its, rv, IsTup.new _ _⟩)
  exact ⟨.ref h'.objs.size, _, I3, rfl, q _ _ (I1.hok.fresh (Nat.le_refl _)) rfl⟩
end
/-- x.index(y) -/
def idxAt (xs ds : List D) (j : Nat) : Prop := (∃ (ys : List Str) (z : Str), ds = [.str z] ∧ xs = ys.map D.str ∧ ys[j]? = some z ∧ (∀ m, m < j → ys[m]? ≠ some z)) ∨
  ∃ (ys : List Int) (z : Int), ds = [.int z] ∧ xs = ys.map D.int ∧ ys[j]? = some z ∧ (∀ m, m < j → ys[m]? ≠ some z)
def dTIdx (a : DE) (b : DA) : DE := fun δ M P => a δ M fun x M1 => ∃ xs, x = .ftp xs ∧ b δ M1 fun ds M2 => ∃ j, idxAt xs ds j ∧ P (.int (j : Nat)) M2
instance pu_tidx {K : PySem.W.Frag} {ta : TE} {tb : TA} {da : DE} {db : DA} [A : PuE ta da] [B : PuA tb db] : PuE (tTIdx K ta tb) (dTIdx da db) := ⟨fun S M σ δ H P Q w e h k =>
  A.run S M σ δ H _ _ w e h fun d S1 M1 v H1 p1 t1 w1 h1 => by
    obtain ⟨xs, rfl, p1⟩ := p1
    have h1' := h1
    cases h1 with
    | @ftp a ob vs _ n ha hd hs =>
      refine ⟨⟨a, ob, vs, rfl, ha, hd⟩, B.run S1 M1 σ δ H1 _ _ w1 (e.step w t1) p1 fun d2 S2 M2 v2 H2 p2 t2 w2 h2 => ?_⟩
      obtain ⟨j, p2, q⟩ := p2
      have h3 := dt_step w1 t2 _ h1'
      cases h3 with
      | @ftp _ o3 us _ n3 ha3 hd3 hs3 =>
        rcases p2 with ⟨ys, z, rfl, rfl, hy, hno⟩ | ⟨ys, z, rfl, rfl, hy, hno⟩
        · have eu := hs3.strs_eq
          subst eu
          match v2, h2 with
          | [_], .cons (.str _) .nil => exact ⟨a, j, rfl, .inl ⟨ys, z, rfl, Or.inl (Or.inr ⟨_, ha3⟩), hy, hno⟩, k _ S2 M2 _ H2 q (t1.trans t2) w2 (.int _)⟩
        · have eu := hs3.ints_eq
          subst eu
          match v2, h2 with
          | [_], .cons (.int _) .nil => exact ⟨a, j, rfl, .inr ⟨ys, z, rfl, Or.inl (Or.inr ⟨_, ha3⟩), hy, hno⟩, k _ S2 M2 _ H2 q (t1.trans t2) w2 (.int _)⟩⟩
theorem x_tidx {a : DE} {b : DA} {δ : Dl} {M : Mem} {P : QD} (h : a δ M fun x M1 => ∃ xs, x = .ftp xs ∧ b δ M1 fun ds M2 => ∃ j, idxAt xs ds j ∧ P (.int (j : Nat)) M2) : dTIdx a b δ M P := h
def dTupF (t : DA) : DE := fun δ M P => t δ M fun xs M1 => xs.length ≤ sizeLine ∧ P (.ftp xs) M1
instance pu_tupF {t : TA} {dt : DA} [A : PuA t dt] : PuE (tTupF t) (dTupF dt) := ⟨fun S M σ δ H P Q w e h k =>
  A.run S M σ δ H _ _ w e h fun d S1 M1 v H1 p1 t1 w1 h1 => ⟨by rw [h1.length]; exact p1.1, fun p o np hd =>
    k _ S1 M1 _ _ p1.2 (t1.trans (.new np)) (w1.new np) (.ftp (w1.ns np) upd_same hd (h1.sm (Same.new np)))⟩⟩
theorem x_tupF {t : DA} {δ : Dl} {M : Mem} {P : QD} (h : t δ M fun xs M1 => xs.length ≤ sizeLine ∧ P (.ftp xs) M1) : dTupF t δ M P := h
def kTupF1 (x : D) (M : Mem) (P : QD) : Prop := ∃ xs, isLs M x xs ∧ P (.ftp xs) M
instance pu_tupOfF {K : PySem.W.Frag} {ta : TE} {da : DE} [A : PuE ta da] : PuE (tThen ta (kTupF K)) (dThen da kTupF1) := ⟨fun S M σ δ H P Q w e h k =>
  A.run S M σ δ H _ _ w e h fun d S1 M1 v H1 p1 t1 w1 h1 => by
    obtain ⟨xs, h2, p1⟩ := p1
    obtain ⟨a, us, rfl, ha, hs⟩ := ls_get w1 h1 h2
    exact ⟨a, us, rfl, SqL.of ha, fun p o np hd => k _ S1 M1 _ _ p1 (t1.trans (.new np)) (w1.new np) (.ftp (w1.ns np) upd_same hd (hs.sm (Same.new np)))⟩⟩
theorem x_tfL {xs : List D} {M : Mem} {P : QD} (p : P (.ftp xs) M) : kTupF1 (.lst xs) M P := ⟨xs, .inl rfl, p⟩
def dLstRgM (t : DRg) : DE := fun δ M P => t δ M fun a b M1 => RgOk a b ∧ ∀ q, M1 q = none → P (.ptr q) (mset M1 q (.lst (rgD a b)))
theorem x_lstRgM {t : DRg} {δ : Dl} {M : Mem} {P : QD} (h : t δ M fun a b M1 => RgOk a b ∧ ∀ q, M1 q = none → P (.ptr q) (mset M1 q (.lst (rgD a b)))) : dLstRgM t δ M P := h
end V
namespace V
open PySem PySem.Spec PyProof.Rows L2 U StX
def digs (n : Nat) : List Nat := ((cd (til n)).drop 1).reverse
def valD10 : List Nat → Nat
  | [] => 0
  | c :: r => (c - 48) + 10 * valD10 r
theorem til_rev : ∀ n, n < 100 → (cd (til n)).reverse = digs n ++ [126] ∧ (digs n).all (fun c => c != 126) = true ∧ valD10 (digs n) = n ∧ okText 3 (til n) = true ∧ (til n).length ≤ 3 ∧ (n ≤ 9 → (til n).length = 2) := by decide +kernel
theorem tw_app {l u : List Nat} (h : l.all (fun c => c != 126) = true) : (l ++ 126 :: u).takeWhile (fun c => c != 126) = l := by
  induction l with
  | nil => rfl
  | cons a l ih =>
    rw [List.all_cons, Bool.and_eq_true] at h
    rw [List.cons_append, List.takeWhile_cons, if_pos h.1, ih h.2]
theorem til_cut {x y : Str} {n m : Nat} (hn : n < 100) (hm : m < 100) (h : x ++ til n = y ++ til m) : n = m := by
  obtain ⟨a1, a2, a3, _⟩ := til_rev n hn
  obtain ⟨b1, b2, b3, _⟩ := til_rev m hm
  have e : (cd x ++ cd (til n)).reverse = (cd y ++ cd (til m)).reverse := by rw [← cd_append, ← cd_append, h]
  rw [List.reverse_append, List.reverse_append, a1, b1, List.append_assoc, List.append_assoc] at e
  have f := congrArg (List.takeWhile fun c => c != 126) e
  rw [show ([126] : List Nat) ++ (cd x).reverse = 126 :: (cd x).reverse from rfl, show ([126] : List Nat) ++ (cd y).reverse = 126 :: (cd y).reverse from rfl, tw_app a2, tw_app b2] at f
  rw [← a3, ← b3, f]
def numG (r : Ru) (w : Nat) (b : Str) (n : Nat) : Str := (match r with | .tight => tkS (w - (til n).length) b | _ => b) ++ til n
theorem numG_one {r : Ru} {w : Nat} {b : Str} {n m : Nat} (hn : n < 100) (hm : m < 100) (h : numG r w b n = numG r w b m) : n = m := til_cut hn hm h
theorem numG_ok {r : Ru} {w m n : Nat} {b : Str} (h : okText m b = true) (hn : n < 100) : okText (m + 3) (numG r w b n) = true := by
  unfold numG
  refine ok_append ?_ (til_rev n hn).2.2.2.1
  cases r with
  | tight => exact ok_mono (tkS_ok h) (Nat.min_le_right _ _)
  | count => exact h
  | free => exact h
def matesN (w : Nat) (t : Str) (th : List (Str × Str)) : Nat := (th.filter fun p => decide (tkS w p.1 = tkS w t)).length
def nameG (r : Ru) (w : Nat) (t : Str) (th : List (Str × Str)) : Str :=
  match r with
  | .count => if matesN w t th = 0 then tkS w t else numG .count w (tkS w t) (matesN w t th + 1)
  | r => if tkS w t ∈ th.map (·.2) then numG r w (tkS w t) (nextN (th.map (·.2)) (numG r w (tkS w t)) th.length 2) else tkS w t
theorem mates_le (w : Nat) (t : Str) (th : List (Str × Str)) : matesN w t th ≤ th.length := List.length_filter_le _ _
theorem nameG_ok {r : Ru} {w : Nat} {t : Str} {th : List (Str × Str)} (hw : w ≤ 40) (ht : okText 200 t = true) (hl : th.length ≤ 60) : okText 43 (nameG r w t th) = true := by
  have b : okText 40 (tkS w t) = true := ok_mono (tkS_ok ht) (by omega)
  have m := mates_le w t th
  have n1 := nextN_le (th.map (·.2)) (numG r w (tkS w t)) th.length 2
  unfold nameG
  cases r with
  | count =>
    simp only
    split
    · exact ok_mono b (by omega)
    · exact numG_ok b (by omega)
  | free =>
    simp only
    split
    · exact numG_ok b (by omega)
    · exact ok_mono b (by omega)
  | tight =>
    simp only
    split
    · exact numG_ok b (by omega)
    · exact ok_mono b (by omega)
/-- the search for a number ends -/
theorem nextG {r : Ru} {w : Nat} {b : Str} {tk : List Str} (hl : tk.length ≤ 60) : ∃ m, 2 ≤ m ∧ m ≤ tk.length + 2 ∧ numG r w b m ∉ tk ∧ (∀ j, 2 ≤ j → j < m → numG r w b j ∈ tk) ∧ nextN tk (numG r w b) tk.length 2 = m := by
  obtain ⟨m, h1, h2, h3, h4⟩ := first_free (tk := tk) (f := numG r w b) fun i j hi hj e => numG_one (by omega) (by omega) e
  exact ⟨m, h1, h2, h3, h4, nextN_eq h3 tk.length 2 h1 (by omega) h4⟩
section
variable {δ : Dl} {M : Mem} {P : QD} {PS : Str → Mem → Prop} {acc z : Str} {d : DE} {ds : List DE} {i : Nat}
theorem x_js0 (h : PS acc M) : dJs [] acc δ M PS := h
theorem x_js (h : d δ M fun x M1 => ∃ y : Str, x = .str y ∧ (acc ++ y).length ≤ sizeLine ∧ dJs ds (acc ++ y) δ M1 PS) : dJs (d :: ds) acc δ M PS := h
theorem x_fmtV {n : Int} (h : δ[i]? = some (some (.int n))) (l : n.natAbs.log2 < 1920) (p : P (.str (Str.ofString (toString n))) M) : dFmt (dVar i) δ M P := ⟨_, h, l, p⟩
theorem log_small {n : Nat} (h : n < 1000000) : ((n : Nat) : Int).natAbs.log2 < 1920 := by
  rw [Int.natAbs_natCast]
  have : n.log2 < 20 := by
    by_cases c : n = 0
    · subst c; decide
    · exact (Nat.log2_lt c).mpr (by omega)
  omega
end
end V
namespace V
open PySem PySem.Spec PyProof.Rows L2 U StX
/-- what is wished of an exception: its class, its fields -/
abbrev QX := Addr → List (Str × D) → Mem → Prop
def AtX (S : Addr → Prop) (M : Mem) (H : Hp) (q : QX) (E : XK) : Prop := ∀ C fs S' M' d H', q C fs M' → Step S M H S' M' H' → Wo S' M' H' → XF S' H' d fs → E (.ref C) d H'
theorem AtX.go {S S' : Addr → Prop} {M M' : Mem} {H H' : Hp} {q : QX} {E : XK} (a : AtX S M H q E) (t : Step S M H S' M' H') : AtX S' M' H' q E := fun C fs S2 M2 d H2 p t2 w2 x => a C fs S2 M2 d H2 p (t.trans t2) w2 x
abbrev DCX := List D → Mem → QD → QX → Prop
def liftX (sp : DCX) : Sp := fun vs H Q E => ∃ S M ds P q, Wo S M H ∧ DtA S H vs ds ∧ sp ds M P q ∧ AtE S M H P Q ∧ AtX S M H q E
class PuXE (E : XK) (t : TE) (dt : outParam (QX → DE)) : Prop where
  run : ∀ S M σ δ H P q Q, Wo S M H → En S H σ δ → dt q δ M P → AtE S M H P Q → AtX S M H q E → t σ H Q
class PuXS (E : XK) (t : TS) (dt : outParam (QX → DS)) : Prop where
  run : ∀ S M σ δ H nx rt bk ct (D : Ends) q, Wo S M H → En S H σ δ → dt q nx rt bk ct δ M → Lk S M H nx rt bk ct D → AtX S M H q E → t D σ H
abbrev sSeqX (a b : QX → DS) : QX → DS := fun q => sSeq (a q) (b q)
abbrev sDropX (a : QX → DE) : QX → DS := fun q => sDrop (a q)
abbrev sRetX (a : QX → DE) : QX → DS := fun q => sRet (a q)
abbrev sIfX (c : DT) (a b : QX → DS) : QX → DS := fun q => sIf c (a q) (b q)
abbrev sAsgX (a : QX → DE) (g : DG) : QX → DS := fun q => sAsg (a q) g
section
variable {E : XK} {ta : TE} {da : DE} {t u : TS} {dt du : QX → DS} {dtp : DS} {dx : QX → DE}
instance (priority := low) pux_liftE [A : PuE ta da] : PuXE E ta (fun _ => da) := ⟨fun S M σ δ H P q Q w e h k _ => A.run S M σ δ H P Q w e h k⟩
instance (priority := low) pux_liftS [A : PuS t dtp] : PuXS E t (fun _ => dtp) := ⟨fun S M σ δ H nx rt bk ct D q w e h l _ => A.run S M σ δ H nx rt bk ct D w e h l⟩
instance pux_seq [A : PuXS E t dt] [B : PuXS E u du] : PuXS E (tSeq t u) (sSeqX dt du) := ⟨fun S M σ δ H nx rt bk ct D q w e h l x =>
  A.run S M σ δ H _ _ _ _ _ q w e h ⟨fun δ1 S1 M1 σ1 H1 p1 t1 w1 e1 => B.run S1 M1 σ1 δ1 H1 nx rt bk ct D q w1 e1 p1 (l.go t1) (x.go t1), l.rt, l.bk, l.ct⟩ x⟩
instance pux_drop [A : PuXE E ta dx] : PuXS E (tDrop ta) (sDropX dx) := ⟨fun S M σ δ H nx rt bk ct D q w e h l x =>
  A.run S M σ δ H _ q _ w e h (fun d S1 M1 v H1 p1 t1 w1 h1 => l.nx _ S1 M1 _ H1 p1 t1 w1 (e.step w t1)) x⟩
instance pux_ret [A : PuXE E ta dx] : PuXS E (tRet ta) (sRetX dx) := ⟨fun S M σ δ H nx rt bk ct D q w e h l x => A.run S M σ δ H _ q _ w e h l.rt x⟩
instance pux_ifS {c : TT} {dc : DT} [C : PuT c dc] [A : PuXS E t dt] [B : PuXS E u du] : PuXS E (tIfS c t u) (sIfX dc dt du) := ⟨fun S M σ δ H nx rt bk ct D q w e h l x =>
  C.run S M σ δ H _ _ w e h fun b S1 M1 H1 p1 t1 w1 => by
    cases b with
    | true =>
      rw [if_pos rfl] at p1 ⊢
      exact A.run S1 M1 σ δ H1 nx rt bk ct D q w1 (e.step w t1) p1 (l.go t1) (x.go t1)
    | false =>
      rw [if_neg Bool.false_ne_true] at p1 ⊢
      exact B.run S1 M1 σ δ H1 nx rt bk ct D q w1 (e.step w t1) p1 (l.go t1) (x.go t1)⟩
instance pux_asg {g : TG} {dg : DG} {sl : List Nat} [A : PuXE E ta dx] [B : PuG g dg sl] : PuXS E (tAsg ta g) (sAsgX dx dg) := ⟨fun S M σ δ H nx rt bk ct D q w e h l x =>
  A.run S M σ δ H _ q _ w e h (fun d S1 M1 v H1 p1 t1 w1 h1 =>
    B.run S1 M1 σ δ H1 v d _ _ w1 (e.step w t1) h1 p1 fun δ2 S2 M2 σ2 H2 p2 t2 w2 e2 _ => l.nx δ2 S2 M2 σ2 H2 p2 (t1.trans t2) w2 e2) x⟩
end
def dCallX (sp : DCX) (q : QX) (t : DA) : DE := fun δ M P => t δ M fun ds M1 => sp ds M1 P q
def dCallNX (n m : Nat) (sp : DCX) (g : List D → List D → List D) (q : QX) (t tk : DA) : DE := fun δ M P => t δ M fun ds M1 => tk δ M1 fun es M2 => ds.length = n ∧ es.length = m ∧ sp (g ds es) M2 P q
section
variable {E : XK} {t tk : TA} {dt dk : DA} {sp : DCX} {C : Addr}
instance pux_call [A : PuA t dt] : PuXE E (tCall (liftX sp) [] E t) (fun q => dCallX sp q dt) := ⟨fun S M σ δ H P q Q w e h k x =>
  A.run S M σ δ H _ _ w e h fun ds S1 M1 vs H1 p1 t1 w1 h1 => by
    rw [List.append_nil]
    exact ⟨S1, M1, ds, P, q, w1, h1, p1, k.go t1, x.go t1⟩⟩
end
section
variable {X : Cx} {k : Nat} {f C : Addr} {fd : FuncData} {ps ks : List Str} {sp : Sp} {x : Str} {p pos : Pos} {e : Expr} {es : List Expr} {t tk : TA} {kws : List Keyword} {E : XK}
theorem passX (tk : Takes X fun cls d _ H => E cls d H) : Passes (L2.CX X.prog X.w) X E := passes_call tk fun _ _ _ _ h => h
end
/-- the own __init__ of an exception with one field -/
def spExI (C : Addr) (f : Str) : Sp := fun vs H Q _ => ∃ (a : Addr) (y : V), vs = [.ref a, y] ∧ H a = some (exo a C none) ∧ ∀ dx, H dx = none → dx ≠ a → Q .non (upd (upd H dx (exd dx [(f, y)])) a (exo a C (some dx)))
/-- raise C(e) -/
def tRaiseX (E : XK) (C : Addr) (f : Str) (te : TE) : TS := fun _ σ H => tMkO C (spExI C f) [] (tCons te tNil) σ H E
theorem upd_back {H : Hp} {a d : Addr} {o1 o2 o3 o4 : HO} (n : H a = none) (nd : d ≠ a) : upd (del (upd (upd (upd H a o1) d o2) a o3) a) d o4 = upd H d o4 := by
  funext b
  by_cases h1 : b = d
  · rw [h1, upd_same, upd_same]
  · rw [upd_ne h1, upd_ne h1]
    by_cases h2 : b = a
    · rw [h2, del_same, n]
    · rw [del_ne h2, upd_ne h2, upd_ne h1, upd_ne h2]
section
variable {X : Cx} {E : XK} {C fI : Addr} {k : Nat} {fd : FuncData} {ps : List Str} {f x : Str} {e : Expr} {te : TE} {p pos pos' : Pos}
theorem ps_raiseX (T : OexC X.K C) (iC : PySem.W.findIn X.K (.ref C) "__init__" = some (some (.ref fI))) (tI : PySem.W.typeIn X.K (.ref fI) = some (.type "function"))
    (F : FnOk X.prog X.w X.K X.mg X.base L2.CX0 k fI fd ps (spExI C f)) (hr : Room (k + 1) X.A) (hb : Binds X.K fd ps []) (hg : Gl X x) (hm : X.mg x = some (.ref C)) (hc : X.calm = true) (tk : Takes X fun cls d _ H => E cls d H) (he : PE X e te)
    (hdb : (x == ("__debug__" : Str)) = false := by decide) (hs : starEach (e :: []) X.env = (false, eval e X.env) :: starEach [] X.env := by rfl) (hpl : (backTo pos (starEach [] X.env)).any (·.1) = false := by rfl) :
    PS X (.Raise (some (.Call (.Name x p) [e] [] pos)) none pos') (tRaiseX E C f te) :=
  ps_raise hc tk (pmk_oex (dvs := []) (ds := []) T iC tI F hr hb .nil (fun _ _ _ _ _ _ _ h => h.elim) hg hm (pa_cons he pa_nil hs) (p := p) (pos := pos) hdb hs hpl)
end
def sRaiseX (C : Addr) (f : Str) (q : QX) (a : DE) : DS := fun _ _ _ _ δ M => a δ M fun y M1 => q C [(f, y)] M1
instance pux_raise {E : XK} {C : Addr} {f : Str} {te : TE} {da : DE} [A : PuE te da] : PuXS E (tRaiseX E C f te) (fun q => sRaiseX C f q da) := ⟨fun S M σ δ H nx rt bk ct D q w e h l x =>
  A.run S M σ δ H _ _ w e h fun d S1 M1 v H1 p1 t1 w1 h1 => by
    refine ⟨by simp, fun a na => ⟨a, v, rfl, upd_same, fun dx nd ne => ?_⟩⟩
    have nd1 : H1 dx = none := by rw [upd_ne ne] at nd; exact nd
    refine ⟨rfl, dx, [(f, v)], upd_same, by rw [upd_ne ne, upd_same], nd1, ?_⟩
    rw [upd_back na ne]
    exact x C [(f, d)] S1 M1 (some dx) _ p1 (t1.trans (.new nd1)) (w1.new nd1) (.inr ⟨dx, _, rfl, w1.ns nd1, upd_same, rfl, .cons (h1.sm (Same.new nd1)) .nil⟩)⟩
section
variable {P : Program} {w : World} {K : PySem.W.Frag} {mg : Str → Option Value} {base : Heap} {x qual : Str} {st : Stmt} {f : Addr} {fd : FuncData} {N ps : List Str} {k : Nat} {sp : DCX}
theorem liftXLen (len : ∀ ds M P q, sp ds M P q → ds.length = ps.length) : ∀ vs H Q E, liftX sp vs H Q E → vs.length = ps.length := fun vs H Q E ⟨S, M, ds, P, q, _, h, p, _⟩ => by rw [h.length]; exact len ds M P q p
theorem fnX (F : L2.Fun K x qual st f fd) (S : FnScope N ps (L2.defScope st)) (len : ∀ ds M P q, sp ds M P q → ds.length = ps.length)
    (hb : ∀ (cdv : Value) (A : Around) (outer : List Env) (s : Shared) (H : Hp) (E : XK), Room k (A.deeper (envOfC qual (L2.defScope st) s.heap.objs.size f cdv)) →
      Takes (cxOf (L2.CX P w) P w K mg base N qual (L2.defScope st) f cdv A outer s H E) (fun cls d _ H => E cls d H) →
      PassesOwn (model P w) (cxOf (L2.CX P w) P w K mg base N qual (L2.defScope st) f cdv A outer s H E).A (cxOf (L2.CX P w) P w K mg base N qual (L2.defScope st) f cdv A outer s H E).env (cxOf (L2.CX P w) P w K mg base N qual (L2.defScope st) f cdv A outer s H E).xe →
      ∃ t, PSs (cxOf (L2.CX P w) P w K mg base N qual (L2.defScope st) f cdv A outer s H E) (L2.defBody st) t ∧ ∃ dt, PuXS E t dt ∧ ∀ ds M P q, sp ds M P q → dt q (fun _ M' => P .non M') P (fun _ _ => False) (fun _ _ => False) (startD N ds) M) :
    FnOk P w K mg base (L2.CX P w) (k + 1) f fd ps (liftX sp) :=
  F.okX S (liftXLen len) fun cdv A outer s H vs Q E hr h => by
    obtain ⟨t, ht, dt, AA, go⟩ := hb cdv A outer s H E hr (takes_of rfl rfl rfl rfl) PassesOwn.leaving
    obtain ⟨S, M, ds, P, q, w, h, p, k, kx⟩ := h
    exact ⟨t, ht, AA.run S M _ _ H _ _ _ _ _ q w (en_start N h) (go ds M P q p) ⟨fun δ' S' M' σ' H' q t w e => k _ S' M' _ H' q t w .non, k, fun _ _ _ _ _ q => q.elim, fun _ _ _ _ _ q => q.elim⟩ kx⟩
end
section
variable {δ : Dl} {M : Mem} {P : QD} {a : DE} {t tk : DA} {nx bk ct : QS} {rt : QD} {q : QX}
theorem x_callX {sp : DCX} (h : t δ M fun ds M1 => sp ds M1 P q) : dCallX sp q t δ M P := h
theorem x_callNX {n m : Nat} {sp : DCX} {f : List D → List D → List D} (h : t δ M fun ds M1 => tk δ M1 fun es M2 => ds.length = n ∧ es.length = m ∧ sp (f ds es) M2 P q) : dCallNX n m sp f q t tk δ M P := h
theorem x_raiseX {C : Addr} {f : Str} (h : a δ M fun y M1 => q C [(f, y)] M1) : sRaiseX C f q a nx rt bk ct δ M := h
end
end V
namespace V
open PySem PySem.Spec PyProof.Rows L2 U StX
/-- the rows of an _law_ended: class, word, attribute -/
abbrev ERow := Addr × Str × Str
end V
namespace V
open PySem PySem.Spec PyProof.Rows L2 U StX
end V
namespace V
open PySem PySem.Spec PyProof.Rows L2 U StX
/-- what the making of a lambda does to the heap: its code object is found, or a new one stands in the table at P -/
def LamTo (H : Hp) (P : Addr) (q : Str) (H1 : Hp) : Prop := H1 = H ∨ ∃ (ps : Array Value) (pos : Pos) (c : Addr), H P = some (.tbl ps) ∧ H c = none ∧ H1 = upd (upd H P (.tbl (ps ++ #[rawInt pos.line, rawInt pos.col, .ref c]))) c (LamX.CodeO c q)
section
variable {X : Cx} {pins : List (Addr × Obj)} {σ : L2.St} {H : Hp} {s : Shared}
theorem lam_make3 {c P : Addr} {params : Arguments} {body : Expr} {scope : Scope} {pos : Pos} {E : Value → Shared → Prop} {Q : Value → Shared → Prop} (I : Inv X pins σ H s) (TB : LamX.TabB X.base X.mg c P) (hcode : X.env.code = .ref c)
    (hT : LamX.TabS H P (X.env.qual ++ "<lambda>")) (hdef : defaultsOf params X.env = ([], [])) (hfree : ∀ y ∈ scope.names, y.2 = .free → ∃ c, X.env.cells.lookup y.1 = some c)
    (h : ∀ (f c' : Addr) (pm ctv : Value) (H1 : Hp) (s' : Shared), Inv X pins σ H1 s' → LamTo H P (X.env.qual ++ "<lambda>") H1 →
      s'.heap.get? f = some (PySem.W.kla_obj "<lambda>" (X.env.qual ++ "<lambda>") params body scope (cloFrom X.env.cells scope.names []) pm c' ctv) → H1 f = none → f ∉ frs X.stack → H1 c' = some (LamX.CodeO c' (X.env.qual ++ "<lambda>")) → Q (.ref f) s') :
    wpAny (model X.prog X.w) X.A (eval (.Lambda params body scope pos) X.env) Q E s := by
  obtain ⟨ps, hP, ht, ha⟩ := hT
  refine PySem.W.kla_eval hdef ?_
  have bP : s.heap.BuiltinsAt X.mg P := TB.bm.keeps I.bk
  have hP' : s.heap.get? P = some { cls := .none, data := .fields ps } := I.hok P _ hP
  have nofr : ∀ f, s.heap.objs.size ≤ f → f ∉ frs X.stack := fun f hf z => by
    rcases List.mem_cons.mp (I.stkSub _ z) with e | e
    · have h1 := I.lt
      rw [← e] at h1
      exact Nat.lt_irrefl _ (Nat.lt_of_lt_of_le h1 hf)
    · exact I.nofs hf e
  cases hc : codeAmong pos ps.toList with
  | none =>
    refine PySem.W.kla_makeFunction (mg := X.mg) (c := c) (P := P) (ps := ps) (closure_ok hfree) I.ok.glob (I.mod.glob.keeps I.bk) hcode (TB.code.keeps I.bk) hP' ht hc TB.gP bP fun c' ctv h' tk hx hge hlt hrec htb => ?_
    obtain ⟨c2, oc, vs, t, e2, hoc, hd, hv⟩ := hrec
    cases e2
    have hsz : s.heap.objs.size ≤ h'.objs.size := Nat.le_trans hge (Nat.le_of_lt hlt)
    have nC : H c' = none := I.hok.fresh hge
    have I1 := LamX.inv_table (t' := tk) (more := #[rawInt pos.line, rawInt pos.col, .ref c']) (h' := h'.push (PySem.W.kla_obj "<lambda>" (X.env.qual ++ "<lambda>") params body scope (cloFrom X.env.cells scope.names []) ((X.mg "__name__").getD .none) c' ctv)) I hP
      (fun b o hb e => Heap.get?_push_of_some _ (hx b o hb e)) (Heap.get?_push_of_some _ htb) hge ⟨oc, vs, t, Heap.get?_push_of_some _ hoc, hd, hv⟩
    refine h h'.objs.size c' ((X.mg "__name__").getD .none) ctv _ _ I1 (.inr ⟨ps, pos, c', hP, nC, rfl⟩) (Heap.get?_push_size _ rfl) ?_ (nofr _ hsz) upd_same
    have n1 : h'.objs.size ≠ c' := Nat.ne_of_gt hlt
    have n2 : h'.objs.size ≠ P := Nat.ne_of_gt (Nat.lt_of_lt_of_le (Heap.lt_size hP') hsz)
    rw [upd_ne n1, upd_ne n2]
    exact I.hok.fresh hsz
  | some cv =>
    obtain ⟨c', e, hco⟩ := ha pos cv hc
    subst e
    refine PySem.W.kla_makeFunctionHit (mg := X.mg) (c := c) (P := P) (ps := ps) (closure_ok hfree) I.ok.glob (I.mod.glob.keeps I.bk) hcode (TB.code.keeps I.bk) hP' ht hc bP fun ctv h' tk hx hsz => ?_
    have I1 : Inv X pins σ H { s with heap := h'.push (PySem.W.kla_obj "<lambda>" (X.env.qual ++ "<lambda>") params body scope (cloFrom X.env.cells scope.names []) ((X.mg "__name__").getD .none) c' ctv), toks := tk } := I.kept fun b o e => Heap.get?_push_of_some _ (hx b o e)
    exact h h'.objs.size c' ((X.mg "__name__").getD .none) ctv H _ I1 (.inl rfl) (Heap.get?_push_size _ rfl) (I.hok.fresh hsz) (nofr _ hsz) hco
end
def tLamP (P : Addr) (q : Str) (TT : (XK → Hp → VK → Prop) → Hp → VK → Prop) (t : XK → TE) : TE := fun σ H Q => LamX.TabS H P q ∧ ∀ H1, LamTo H P q H1 → TT (fun E H' Q' => t E σ H' Q') H1 Q
section
variable {X : Cx}
/-- x(lambda: body) -/
theorem pe_lamP {TT : (XK → Hp → VK → Prop) → Hp → VK → Prop} {x a : Str} {g c P : Addr} {k : Nat} {st : Stmt} {fdg : FuncData} {Ng : List Str}
    {params : Arguments} {body : Expr} {scope : Scope} {t : XK → TE} {p lpos pos : Pos} (hg : Gl X x) (hm : X.mg x = some (.ref g)) (F : L2.Fun X.K x x st g fdg) (hb : L2.Binds X.K fdg [a] []) (Sg : FnScope Ng [a] (L2.defScope st)) (hNg : Ng[0]? = some a) (hva : Vis (L2.defScope st) a)
    (hG : ∀ cdv : Value, LamX.GivesTo X Ng x (L2.defScope st) g cdv (L2.defBody st) a (X.env.qual ++ "<lambda>") TT)
    (TB : LamX.TabB X.base X.mg c P) (hcode : X.env.code = .ref c) (hr : Room (k + 2) X.A) (L : LamX.LamS X.env.scope scope) (hdef : defaultsOf params X.env = ([], []))
    (hbind : ∀ (q : Str) (cl : List (Str × Addr)) (pm cv ctv : Value), bindArgs (PySem.W.kla_fn "<lambda>" q params body scope cl pm cv ctv) ⟨[], []⟩ = pure [])
    (hbody : ∀ (A : Around) (outer : List Env) (s : Shared) (H : Hp) (E : XK) (f c' : Addr), Room k (A.deeper (LamX.lamEnv X scope s.heap.objs.size f c')) → PE (LamX.lamCx X A outer s H E scope f c') body (t E))
    (hdb : (x == ("__debug__" : Str)) = false := by decide) (hd : (a == ("__debug__" : Str)) = false := by decide) (hcd : (a == ("__classdict__" : Str)) = false := by decide) :
    PE X (.Call (.Name x p) [.Lambda params body scope lpos] [] pos) (tLamP P (X.env.qual ++ "<lambda>") TT t) := by
  obtain ⟨oc, od, kV, doc, pm, an, cdv, ct, osl, efd, lk, hcg⟩ := F.ex
  subst efd
  refine ⟨fun pins s σ H Q I h => ?_⟩
  obtain ⟨hT, h⟩ := h
  refine wpAny_Call_Name_kw (ld_glob I hg hm ?_ hdb)
  refine PySem.W.callWith_K (h₀ := X.base) I.ok.mod.kin F.kp ?_ (by rfl) (by rfl)
  show wpAny _ _ (spliced ((false, eval (.Lambda params body scope lpos) X.env) :: backTo pos (starEach [] X.env))) _ _ s
  refine Calls.spliced_cons (lam_make3 I TB hcode hT hdef (L.has I.ok) fun f c' pm' ctv H1 s' I1 lt hf hfn hfr hco => ?_)
  refine Calls.spliced_nil ⟨I1.kIn, ?_⟩
  have rc : codeAny (model X.prog X.w) X.A (.call (.ref g) ⟨[.ref f], []⟩) (CR C8.CX0 X.stack X.prog X.w H1 s' Q C8.E0) s' := by
    refine LamX.run_ofS (N := Ng) (ps := [a]) (us := [.ref f]) (vs := [.ref f]) lk hcg Sg hr I1.env0 (hb s' [.ref f] I1.kIn rfl) (.cons rfl .nil) rfl fun hr' => ?_
    obtain ⟨t', ht', hq'⟩ := hG cdv f c' s' H1 Q (fun E H' Q' => t E σ H' Q') (fun W pn xe E p1 p2 tk hW => LamX.pe_act (i := 0) I1 L hf hfn hfr (hbind _ _ _ _ _) tk hW hr' (fun A outer s H hr2 => hbody A outer s H E f c' hr2) hNg hva hd hcd) hco (h H1 lt)
    exact ⟨t', ht'.nox, hq'⟩
  refine wpAny_call (codeAny_mono rc fun r s2 hq => ?_)
  cases r with
  | error e => exact (show False from hq).elim
  | ok fl =>
    cases fl with
    | ret u => exact I1.after hq
    | next => exact False.elim hq
    | brk => exact False.elim hq
    | cont => exact False.elim hq
end
theorem lam_to {S : Addr → Prop} {M : Mem} {H H1 : Hp} {P : Addr} {q : Str} (w : Wo S M H) (hm : M P = some (.tab q)) (l : LamTo H P q H1) : Wo S M H1 ∧ Step S M H S M H1 := by
  rcases l with rfl | ⟨ps, pos, c, hP, nC, rfl⟩
  · exact ⟨w, .refl⟩
  · have sP := (w.mem P _ hm).1
    obtain ⟨ps', hP', ht, ha⟩ := (w.mem P _ hm).2
    rw [hP] at hP'
    cases hP'
    have nPc : P ≠ c := fun z => by rw [z, nC] at hP; cases hP
    have e1 : upd (upd H P (.tbl (ps ++ #[rawInt pos.line, rawInt pos.col, .ref c]))) c (LamX.CodeO c q) = upd (upd H c (LamX.CodeO c q)) P (.tbl (ps ++ #[rawInt pos.line, rawInt pos.col, .ref c])) := by
      funext b
      by_cases h1 : b = P
      · rw [h1, upd_ne nPc, upd_same, upd_same]
      · by_cases h2 : b = c
        · rw [h2, upd_same, upd_ne (Ne.symm nPc), upd_same]
        · rw [upd_ne h2, upd_ne h1, upd_ne h1, upd_ne h2]
    have e2 : mset M P (.tab q) = M := by
      funext b
      by_cases h1 : b = P
      · rw [h1, mset_same, hm]
      · rw [mset_ne h1]
    have w1 := w.new (o := LamX.CodeO c q) nC
    have eL : (ps ++ #[rawInt pos.line, rawInt pos.col, .ref c]).toList = ps.toList ++ [rawInt pos.line, rawInt pos.col, .ref c] := by simp
    have hk : Held S (upd (upd H c (LamX.CodeO c q)) P (.tbl (ps ++ #[rawInt pos.line, rawInt pos.col, .ref c]))) P (.tab q) := by
      refine ⟨_, upd_same, by rw [eL]; exact PySem.TriplesOk_snoc _ _ _ _ ht, fun p' cv hcv => ?_⟩
      rw [eL] at hcv
      rcases LamX.among_app _ ht hcv with z | z
      · obtain ⟨c0, a1, a2, a3⟩ := ha p' cv z
        have n0 : c0 ≠ P := fun y => by
          rw [y, hP] at a2
          exact LamX.codeO_ne ps (Option.some.inj a2).symm
        exact ⟨c0, a1, by rw [upd_ne n0]; exact Same.new nC _ _ a2, a3⟩
      · exact ⟨c, z, by rw [upd_ne (Ne.symm nPc), upd_same], w.ns nC⟩
    have w2 := w1.change hm hk
    have t2 := Step.change (S := S) (H := upd H c (LamX.CodeO c q)) (o := .tbl (ps ++ #[rawInt pos.line, rawInt pos.col, .ref c])) (mo' := .tab q) hm
    rw [e2] at w2 t2
    rw [e1]
    exact ⟨w2, (Step.new nC).trans t2⟩
/-- what is told of an error, over data -/
def endQ (rows : List ERow) (R : QD) : QX := fun C fs M => ∃ (name f : Str) (x : D), (C, name, f) ∈ rows ∧ fs.lookup f = some x ∧ R (.lst [.str name, x, .bl true]) M
def dLamE (P : Addr) (q : Str) (rows : List ERow) (dt : QX → DE) : DE := fun δ M R => M P = some (.tab q) ∧ dt (endQ rows R) δ M fun d M' => R (.lst [.str (Str.ofString "given"), d]) M'
theorem lookup_dt {S : Addr → Prop} {H : Hp} {f : Str} {x : D} : ∀ {gs : List (Str × V)} {fs : List (Str × D)}, gs.map (·.1) = fs.map (·.1) → DtA S H (gs.map (·.2)) (fs.map (·.2)) → fs.lookup f = some x → ∃ v, gs.lookup f = some v ∧ Dt S H v x
  | [], [], _, _, h => by cases h
  | [], _ :: _, e, _, _ => by cases e
  | _ :: _, [], e, _, _ => by cases e
  | (a, v) :: gs, (b, y) :: fs, e, d, h => by
    simp only [List.map_cons, List.cons.injEq] at e
    obtain ⟨rfl, e⟩ := e
    cases d with
    | cons d1 d2 =>
      rw [List.lookup_cons] at h ⊢
      cases c : f == a with
      | true =>
        rw [c] at h
        cases h
        exact ⟨v, rfl, d1⟩
      | false =>
        rw [c] at h
        exact lookup_dt e d2 h
theorem x_lamE {P : Addr} {q : Str} {rows : List ERow} {dt : QX → DE} {δ : Dl} {M : Mem} {R : QD} (hm : M P = some (.tab q)) (h : dt (endQ rows R) δ M fun d M' => R (.lst [.str (Str.ofString "given"), d]) M') : dLamE P q rows dt δ M R := ⟨hm, h⟩
end V
namespace V
open PySem PySem.Spec PyProof.Rows L2 U StX
/-- an empty dict that does not change -/
def empD (a : Addr) : D := .opq a (.dK [])
def dDNewE : DE := fun δ M P => ∀ a, P (empD a) M
theorem x_dnewE {δ : Dl} {M : Mem} {P : QD} (h : ∀ a, P (empD a) M) : dDNewE δ M P := h
mutual
/-- as Dp, with empty dicts -/
inductive Dq (K : PySem.W.Frag) (H : Hp) : V → PyData → Prop
  | non : Dq K H .non .none
  | bl (b : Bool) : Dq K H (.bl b) (.bool b)
  | int (i : Int) : Dq K H (.int i) (.int i)
  | str (x : Str) : Dq K H (.str x) (.str x)
  | lst {a : Addr} {xs : List V} {ds : List PyData} : SqL K H a xs → DqAll K H xs ds → Dq K H (.ref a) (.list ds)
  | tup {a : Addr} {xs : List V} {ds : List PyData} : SqT K H a xs → DqAll K H xs ds → Dq K H (.ref a) (.tuple ds)
  | emp {a : Addr} : H a = some (.dK []) → Dq K H (.ref a) (.dict [])
inductive DqAll (K : PySem.W.Frag) (H : Hp) : List V → List PyData → Prop
  | nil : DqAll K H [] []
  | cons {v : V} {vs : List V} {d : PyData} {ds : List PyData} : Dq K H v d → DqAll K H vs ds → DqAll K H (v :: vs) (d :: ds)
end
/-- the modules' dict is known -/
def SysK (H : Hp) : Prop := ∃ (o : Obj) (es : Array DictEntry) (ep : Nat), H sysModules = some (.frz o (.ext fun _ => True)) ∧ o.data = .dict es ep
section
variable {X : Cx} {pins : List (Addr × Obj)} {σ : L2.St} {H : Hp} {s : Shared}
theorem seq_ne {a : Addr} {o : Obj} {vs : Array Value} {n : Nat} (I : Inv X pins σ H s) (k : SysK H) (ho : s.heap.get? a = some o) (hd : o.data = .seq vs n) : a ≠ sysModules := fun z => by
  obtain ⟨o1, es, ep, h1, h2⟩ := k
  obtain ⟨e, _⟩ := I.hok _ _ h1
  rw [z, e] at ho
  cases ho
  rw [h2] at hd
  cases hd
mutual
theorem Dq.reads (I : Inv X pins σ H s) : ∀ (d : PyData) (v : V) (u : Value), Dq X.K H v d → RelV v u → ∃ as, Reads s.heap u d as ∧ (SysK H → sysModules ∉ as)
  | .none, _, _, h, r => by
    cases h
    cases r
    exact ⟨_, Reads.none, fun _ => by simp⟩
  | .bool b, _, _, h, r => by
    cases h
    cases r
    exact ⟨_, Reads.bool b, fun _ => by simp⟩
  | .int i, _, _, h, r => by
    cases h
    obtain ⟨t, rfl⟩ := r
    exact ⟨_, Reads.int i t, fun _ => by simp⟩
  | .str x, _, _, h, r => by
    cases h
    obtain ⟨t, rfl⟩ := r
    exact ⟨_, Reads.str x t, fun _ => by simp⟩
  | .list ds, _, _, h, r => by
    cases h with
    | lst hs ha =>
      cases r
      obtain ⟨its, rv, ⟨o, n, ho, hc, _, hd⟩, _⟩ := I.list hs
      obtain ⟨as, hr, hn⟩ := Dq.readsAll I ds _ its ha rv
      exact ⟨_, Reads.list ho hc hd hr, fun k z => (List.mem_cons.mp z).elim (fun e => seq_ne I k ho hd e.symm) (hn k)⟩
  | .tuple ds, _, _, h, r => by
    cases h with
    | tup hs ha =>
      cases r
      obtain ⟨its, rv, ⟨o, ho, hc, n, hd⟩, _⟩ := I.tuple hs
      obtain ⟨as, hr, hn⟩ := Dq.readsAll I ds _ its ha rv
      exact ⟨_, Reads.tuple ho hc hd hr, hn⟩
  | .dict kvs, _, _, h, r => by
    cases h with
    | emp he =>
      cases r
      obtain ⟨_, hne, vs, hk, hD⟩ := I.hok _ _ he
      cases hk
      obtain ⟨o, es, ep, ho, hx, hd, _, hes, _⟩ := hD
      have e0 : es.toList = [] := by
        generalize es.toList = l at hes
        cases hes
        rfl
      refine ⟨_, Reads.dict (kvs := []) (as := []) (bs := []) ho hx.1 hd (by rw [e0]; exact .nil) (by rw [e0]; exact .nil), fun k z => ?_⟩
      have z := List.mem_singleton.mp (by simpa using z)
      rw [← z] at hne
      simp at hne
theorem Dq.readsAll (I : Inv X pins σ H s) : ∀ (ds : List PyData) (vs : List V) (us : List Value), DqAll X.K H vs ds → Vals vs us → ∃ as, ReadsAll s.heap us ds as ∧ (SysK H → sysModules ∉ as)
  | [], _, _, h, r => by
    cases h
    cases r
    exact ⟨_, ReadsAll.nil, fun _ => by simp⟩
  | d :: ds, _, _, h, r => by
    cases h with
    | cons h1 h2 =>
      cases r with
      | cons r1 r2 =>
        obtain ⟨as, q1, n1⟩ := Dq.reads I d _ _ h1 r1
        obtain ⟨bs, q2, n2⟩ := Dq.readsAll I ds _ _ h2 r2
        exact ⟨_, ReadsAll.cons q1 q2, fun k z => (List.mem_append.mp z).elim (n1 k) (n2 k)⟩
end
end
def rReprQ (K : PySem.W.Frag) : List V → Hp → VK → Prop := fun xs H Q => ∃ (v : V) (p : PyData), xs = [v] ∧ Dq K H v p ∧ PyData.showable p = true ∧ SysK H ∧ PyData.depth p ≤ 40 ∧ (PyData.shown p).length ≤ sizeLine ∧ Q (.str (PyData.shown p)) H
theorem call_reprQ {X : Cx} {K : PySem.W.Frag} (hK : X.K = K) (hg : X.A.guards = some []) (hu : X.A.units + 64 < cLine) : CallR X (.builtin "repr") (rReprQ K) := by
  subst hK
  intro pins s σ H xs us Q I r h
  obtain ⟨v, p, rfl, hd, hs, hn, hdp, hz, q⟩ := h
  obtain ⟨u, rfl, ru⟩ := vals1 r
  have fin : ∀ (h' : Heap) (tu : Tok) (tk : Nat), (∀ b o, s.heap.get? b = some o → h'.get? b = some o) → EP X pins σ Q (.str (PyData.shown p) tu) { s with heap := h', toks := tk } :=
    fun h' tu tk hk => ⟨.str (PyData.shown p), H, I.kept hk, ⟨_, rfl⟩, q⟩
  obtain ⟨as, rd, na⟩ := Dq.reads I p v u hd ru
  cases hd with
  | non =>
    cases ru
    rw [PyData.shown_none] at fin
    exact P.repr_of_none (fin _ _ _ fun _ _ e => e)
  | bl b =>
    cases ru
    rw [PyData.shown_bool] at fin
    exact P.repr_of_bool (fin _ _ _ fun _ _ e => e)
  | int i =>
    obtain ⟨t, rfl⟩ := ru
    rw [PyData.shown_int] at fin
    have hi : i.natAbs.log2 < 1920 := by simpa [PyData.showable] using hs
    exact P.repr_of_int hi (fin _ _ _ fun _ _ e => e)
  | str y =>
    obtain ⟨t, rfl⟩ := ru
    rw [PyData.shown_str] at fin hz
    exact P.repr_of_str (fin _ _ _ fun _ _ e => e) hz
  | lst _ _ =>
    cases ru
    exact repr_of_reads' (h₀ := s.heap) rd hs (fun _ => na hn) hg (by omega) (fun _ _ e => e) (fun h' tu tk hk => fin h' tu tk hk) hz
  | tup _ _ =>
    cases ru
    exact repr_of_reads' (h₀ := s.heap) rd hs (fun _ => na hn) hg (by omega) (fun _ _ e => e) (fun h' tu tk hk => fin h' tu tk hk) hz
  | emp _ =>
    cases ru
    exact repr_of_reads' (h₀ := s.heap) rd hs (fun _ => na hn) hg (by omega) (fun _ _ e => e) (fun h' tu tk hk => fin h' tu tk hk) hz
mutual
/-- the data that can be shown, empty dicts among them -/
inductive IsQ : D → PyData → Prop
  | non : IsQ .non .none
  | bl (b : Bool) : IsQ (.bl b) (.bool b)
  | int (i : Int) : IsQ (.int i) (.int i)
  | str (x : Str) : IsQ (.str x) (.str x)
  | lst {ds : List D} {ps : List PyData} : IsQs ds ps → IsQ (.lst ds) (.list ps)
  | tup {ds : List D} {ps : List PyData} : IsQs ds ps → IsQ (.tup ds) (.tuple ps)
  | emp (a : Addr) : IsQ (empD a) (.dict [])
inductive IsQs : List D → List PyData → Prop
  | nil : IsQs [] []
  | cons {d : D} {ds : List D} {p : PyData} {ps : List PyData} : IsQ d p → IsQs ds ps → IsQs (d :: ds) (p :: ps)
end
mutual
theorem isQ_dq {K : PySem.W.Frag} {S : Addr → Prop} {H : Hp} : ∀ {d : D} {p : PyData} {v : V}, IsQ d p → Dt S H v d → Dq K H v p
  | _, _, _, .non, h => by cases h; exact .non
  | _, _, _, .bl b, h => by cases h; exact .bl b
  | _, _, _, .int b, h => by cases h; exact .int b
  | _, _, _, .str b, h => by cases h; exact .str b
  | _, _, _, .lst q, h => by
    cases h with
    | lst n ha hs => exact .lst (SqL.of ha) (isQs_dq q hs)
  | _, _, _, .tup q, h => by
    cases h with
    | tup n ha hs => exact .tup (SqT.of ha) (isQs_dq q hs)
  | _, _, _, .emp a, h => by
    cases h with
    | opq n ha => exact .emp ha
theorem isQs_dq {K : PySem.W.Frag} {S : Addr → Prop} {H : Hp} : ∀ {d : List D} {p : List PyData} {v : List V}, IsQs d p → DtA S H v d → DqAll K H v p
  | _, _, _, .nil, h => by cases h; exact .nil
  | _, _, _, .cons q qs, h => by
    cases h with
    | cons h1 h2 => exact .cons (isQ_dq q h1) (isQs_dq qs h2)
end
structure PyQ (W k : Nat) (p : PyData) : Prop where
  lv : PyData.leavesShort 1000 p = true
  sh : PyData.showable p = true
  dep : PyData.depth p ≤ k
  wt : PyData.weight p ≤ W
structure PysQ (W k : Nat) (ps : List PyData) : Prop where
  lv : PyData.leavesShortAll 1000 ps = true
  sh : PyData.showableAll ps = true
  dep : PyData.depthAll ps ≤ k
  wt : PyData.weightAll ps ≤ W
def okQ (W k : Nat) (d : D) : Prop := ∃ p, IsQ d p ∧ PyQ W k p
def okQs (W k : Nat) (ds : List D) : Prop := ∃ ps, IsQs ds ps ∧ PysQ W k ps
theorem okQ.mono {W W' k k' : Nat} {d : D} : okQ W k d → W ≤ W' → k ≤ k' → okQ W' k' d := fun ⟨p, e, a⟩ h h2 => ⟨p, e, a.lv, a.sh, Nat.le_trans a.dep h2, Nat.le_trans a.wt h⟩
theorem okQs.nil (W k : Nat) : okQs W k [] := ⟨[], .nil, rfl, rfl, Nat.zero_le _, Nat.zero_le _⟩
theorem okQs.cons {W W' k : Nat} {d : D} {ds : List D} : okQ W k d → okQs W' k ds → okQs (W + 1 + W') k (d :: ds) := fun ⟨p, e, a⟩ ⟨ps, e2, b⟩ => by
  obtain ⟨a1, a2, a3, a4⟩ := a
  obtain ⟨b1, b2, b3, b4⟩ := b
  refine ⟨p :: ps, .cons e e2, ?_, ?_, ?_, ?_⟩
  · rw [PyData.leavesShortAll, a1, b1]; rfl
  · rw [PyData.showableAll, a2, b2]; rfl
  · rw [PyData.depthAll]; omega
  · rw [PyData.weightAll]; omega
theorem okQs.all {W k : Nat} : ∀ {ds : List D}, (∀ d ∈ ds, okQ W k d) → okQs (ds.length * (W + 1)) k ds
  | [], _ => okQs.nil _ _
  | d :: ds, h => by
    obtain ⟨ps, e, a⟩ := okQs.cons (h d List.mem_cons_self) (okQs.all fun x hx => h x (List.mem_cons_of_mem _ hx))
    have q : (ds.length + 1) * (W + 1) = W + 1 + ds.length * (W + 1) := by rw [Nat.add_mul, Nat.one_mul, Nat.add_comm]
    rw [List.length_cons, q]
    exact ⟨ps, e, a⟩
theorem okQs.list {W k : Nat} {ds : List D} : okQs W k ds → okQ W (k + 1) (.lst ds) := fun ⟨ps, e, a⟩ => ⟨.list ps, .lst e, by rw [PyData.leavesShort]; exact a.lv, by rw [PyData.showable]; exact a.sh, by rw [PyData.depth]; have := a.dep; omega, by rw [PyData.weight]; exact a.wt⟩
theorem okQs.tuple {W k : Nat} {ds : List D} : okQs W k ds → okQ W (k + 1) (.tup ds) := fun ⟨ps, e, a⟩ => ⟨.tuple ps, .tup e, by rw [PyData.leavesShort]; exact a.lv, by rw [PyData.showable]; exact a.sh, by rw [PyData.depth]; have := a.dep; omega, by rw [PyData.weight]; exact a.wt⟩
theorem okQ.emp (a : Addr) : okQ 0 1 (empD a) := ⟨.dict [], .emp a, by decide +kernel, by decide +kernel, by decide +kernel, by decide +kernel⟩
theorem okQ.bl (b : Bool) : okQ 0 0 (.bl b) := ⟨_, .bl b, rfl, rfl, by rw [PyData.depth]; exact Nat.le_refl _, by rw [PyData.weight]; exact Nat.le_refl _⟩
theorem okQ.non : okQ 0 0 .non := ⟨_, .non, rfl, rfl, by rw [PyData.depth]; exact Nat.le_refl _, by rw [PyData.weight]; exact Nat.le_refl _⟩
theorem okQ.int {i : Int} {b : Nat} (h : i.natAbs < 2 ^ b) (h0 : 0 < b := by decide) (hb : b ≤ 900 := by decide) : okQ b 0 (.int i) := by
  obtain ⟨h1, h2, h3, h4, h5, h6⟩ := PyBg.int h h0 hb
  exact ⟨_, .int i, PyData.leavesShort_of_canLay0 1000 _ h1 h2, h3, h5, h6⟩
theorem okQ.str {z : Str} {n : Nat} (h : ∀ c ∈ cd z, c < 0x110000) (hn : (cd z).length ≤ n) : okQ n 0 (.str z) := by
  obtain ⟨p, e, h1, h2, h3, h4, h5, h6⟩ := bgP.str h hn
  rw [D.py] at e
  cases e
  exact ⟨_, .str z, PyData.leavesShort_of_canLay0 1000 _ h1 h2, h3, h5, h6⟩
end V
namespace V
open PySem PySem.Spec PyProof.Rows L2 U StX
section
variable {P : Program} {w : World} {K : PySem.W.Frag} {mg : Str → Option Value} {base : Heap} {x qual : Str} {st : Stmt} {f c : Addr} {fd : FuncData} {N ps : List Str} {k : Nat} {sp : Sp} {sd : DC}
/-- as U.fnG_of, the code object known -/
theorem fnG_ofC (F : L2.Fun K x qual st f fd) (S : FnScope N ps (L2.defScope st)) (hc : fd.code = .ref c) (len : ∀ vs H Q E, sp vs H Q E → vs.length = ps.length)
    (hb : ∀ (A : Around) (outer : List Env) (s : Shared) (H : Hp) (vs : List V) (Q : VK) (E : XK), Room k (A.deeper (envOfC qual (L2.defScope st) s.heap.objs.size f (.ref c))) → A.guards = some [] → sp vs H Q E →
      ∃ t, PSs (cxOf L2.CX0 P w K mg base N qual (L2.defScope st) f (.ref c) A outer s H E).nox (L2.defBody st) t ∧ t { nx := fun _ H' => Q .non H', rt := Q } (L2.start N vs) H) :
    FnG P w K mg base (k + 1) f fd ps sp := by
  obtain ⟨oc, od, kV, doc, pm, an, cdv, ct, osl, rfl, lk, hcd⟩ := F.ex
  obtain rfl : cdv = .ref c := hc
  refine ⟨len, fun A outer s H args us vs Q E hr hg e0 hbd r hsp => ?_⟩
  have hl : vs.length = ps.length := len _ _ _ _ hsp
  have KX : K.In s.heap := e0.mod.kin.keeps (fun b o e => (e0.bs b o e).1)
  have lim : s.heap.NoLimit := e0.mod.nolimit.keeps (fun b o e => (e0.bs b o e).1)
  have kinds : ∀ y ∈ ps.zip us, (L2.defScope st).names.lookup y.1 = some .local ∨ ((L2.defScope st).names.lookup y.1 = some .cell ∧ ((cellsFrom (s.heap.objs.size + 1) (L2.defScope st).names []).lookup y.1).isSome = true) := by
    rintro ⟨n, v⟩ hy
    rcases S.par n (List.of_mem_zip hy).1 with q | q
    · exact Or.inl q
    · exact Or.inr ⟨q, PySem.W.cellsFrom_some _ _ _ (Or.inl q)⟩
  refine codeAny_call_function hr.depth (KX _ _ lk) rfl S.co S.gen rfl (PySem.W.codeRec_of KX hcd) (hbd _ _ _ _ ?_)
  refine wpAny_newFunctionEnv_cells S.kind kinds (fun env he s1 z => ?_)
  subst he
  refine ⟨lim.keeps z.toInCall.keep, codeAny_func ?_⟩
  obtain ⟨t, ht0, hq⟩ := hb A outer s H vs Q E (hr.deeper _) hg hsp
  have I := inv_start (CX := L2.CX0) (E := E) S hr.hd e0 hl r z
  refine wpAny_mono (ht0.nox.run [] s1 (L2.start N vs) H _ I hq) ?_ (fun e s' hs => hs)
  intro fl s' hs
  cases fl with
  | next =>
    obtain ⟨σ', H', J, q⟩ := hs
    exact ⟨V.non, H', J.os, J.bare, J.base, J.hok, rfl, q⟩
  | brk =>
    obtain ⟨_, _, _, q⟩ := hs
    exact q.elim
  | cont =>
    obtain ⟨_, _, _, q⟩ := hs
    exact q.elim
  | ret u =>
    obtain ⟨v, σ', H', J, rv, q⟩ := hs
    exact ⟨v, H', J.os, J.bare, J.base, J.hok, rv, q⟩
/-- a def that makes lambdas; what it makes of its own is left -/
theorem fnDXC (F : L2.Fun K x qual st f fd) (S : FnScope N ps (L2.defScope st)) (hc : fd.code = .ref c) (len : ∀ ds M P, sd ds M P → ds.length = ps.length)
    (hb : ∀ (A : Around) (outer : List Env) (s : Shared) (H : Hp) (E : XK), Room k (A.deeper (envOfC qual (L2.defScope st) s.heap.objs.size f (.ref c))) → A.guards = some [] →
      ∃ t, PSs (cxOf L2.CX0 P w K mg base N qual (L2.defScope st) f (.ref c) A outer s H E).nox (L2.defBody st) t ∧ ∃ dt, PuS t dt ∧ ∀ ds M R, sd ds M R → dt (fun _ M' => ∃ M0, Mle M0 M' ∧ R .non M0) (fun d M' => ∃ M0, Mle M0 M' ∧ R d M0) (fun _ _ => False) (fun _ _ => False) (startD N ds) M) :
    FnG P w K mg base (k + 1) f fd ps (lift sd) :=
  fnG_ofC F S hc (liftLen len) fun A outer s H vs Q E hr hg h => by
    obtain ⟨t, ht, dt, AA, go⟩ := hb A outer s H E hr hg
    refine ⟨t, ht, ?_⟩
    obtain ⟨S, M, ds, R, w, h, p, k⟩ := h
    refine AA.run S M _ _ H _ _ _ _ _ w (en_start N h) (go ds M R p) ⟨fun δ' S' M' σ' H' q t w e => ?_, ?_, fun _ _ _ _ _ q => q.elim, fun _ _ _ _ _ q => q.elim⟩
    · obtain ⟨M0, l, q⟩ := q
      exact k _ S' M0 _ H' q (t.less l) (w.drop l) .non
    · rintro d S' M' v H' ⟨M0, l, q⟩ t w' hv
      exact k d S' M0 v H' q (t.less l) (w'.drop l) hv
end
section
variable {X : Cx}
/-- pe_lamP, the body's reading told by itself -/
theorem pe_lamQ {TT : (XK → Hp → VK → Prop) → Hp → VK → Prop} {x a : Str} {g c P : Addr} {k : Nat} {st : Stmt} {fdg : FuncData} {Ng : List Str}
    {params : Arguments} {body : Expr} {scope : Scope} {t : XK → TE} {p lpos pos : Pos} (hg : Gl X x) (hm : X.mg x = some (.ref g)) (F : L2.Fun X.K x x st g fdg) (hb : L2.Binds X.K fdg [a] []) (Sg : FnScope Ng [a] (L2.defScope st)) (hNg : Ng[0]? = some a) (hva : Vis (L2.defScope st) a)
    (hG : ∀ cdv : Value, LamX.GivesTo X Ng x (L2.defScope st) g cdv (L2.defBody st) a (X.env.qual ++ "<lambda>") TT)
    (TB : LamX.TabB X.base X.mg c P) (hcode : X.env.code = .ref c) (hr : Room (k + 2) X.A) (L : LamX.LamS X.env.scope scope) (hdef : defaultsOf params X.env = ([], []))
    (hbind : ∀ (q : Str) (cl : List (Str × Addr)) (pm cv ctv : Value), bindArgs (PySem.W.kla_fn "<lambda>" q params body scope cl pm cv ctv) ⟨[], []⟩ = pure [])
    (hbody : ∀ (A : Around) (outer : List Env) (s : Shared) (H : Hp) (E : XK) (f c' : Addr), Room k (A.deeper (LamX.lamEnv X scope s.heap.objs.size f c')) → ∃ tb, PE (LamX.lamCx X A outer s H E scope f c') body tb ∧ tb = t E)
    (hdb : (x == ("__debug__" : Str)) = false := by decide) (hd : (a == ("__debug__" : Str)) = false := by decide) (hcd : (a == ("__classdict__" : Str)) = false := by decide) :
    PE X (.Call (.Name x p) [.Lambda params body scope lpos] [] pos) (tLamP P (X.env.qual ++ "<lambda>") TT t) :=
  pe_lamP hg hm F hb Sg hNg hva hG TB hcode hr L hdef hbind (fun A outer s H E f c' hr2 => by
    obtain ⟨tb, h, e⟩ := hbody A outer s H E f c' hr2
    rw [← e]
    exact h) hdb hd hcd
/-- what a lambda that the def x makes is called -/
abbrev lamN (x : Str) : Str := (x ++ ".<locals>.") ++ "<lambda>"
theorem takesL {A : Around} {outer : List Env} {s : Shared} {H : Hp} {E : XK} {scope : Scope} {f c' : Addr} : Takes (LamX.lamCx X A outer s H E scope f c') (fun cls d _ H => E cls d H) := takes_of rfl rfl rfl rfl
end
/-- the script -/
def isScr (K : PySem.W.Frag) (d : D) (ns : List Int) : Prop := (∃ a, d = .opq a (.lst (ns.map V.int))) ∨ (∃ a o, d = .opq a (.frz o (.lst (ns.map V.int)))) ∨ ∃ a, d = .ptr a ∧ ∀ H : Hp, SqL K H a (ns.map V.int)
theorem scr_get {K : PySem.W.Frag} {S : Addr → Prop} {H : Hp} {v : V} {d : D} {ns : List Int} (h : Dt S H v d) (e : isScr K d ns) : ∃ a, v = .ref a ∧ SqL K H a (ns.map V.int) := by
  rcases e with ⟨a, rfl⟩ | ⟨a, o, rfl⟩ | ⟨a, rfl, q⟩
  · cases h with
    | opq n ha => exact ⟨a, rfl, .inl (.inl ha)⟩
  · cases h with
    | opq n ha => exact ⟨a, rfl, .inl (.inr ⟨o, ha⟩)⟩
  · cases h
    exact ⟨a, rfl, q H⟩
theorem scr_of {K : PySem.W.Frag} {S : Addr → Prop} {H : Hp} {a : Addr} {ns : List Int} (h : SqL K H a (ns.map V.int)) (n : ¬ S a) : ∃ d, Dt S H (.ref a) d ∧ isScr K d ns := by
  rcases h with (h | ⟨o, h⟩) | h
  · exact ⟨_, .opq n h, .inl ⟨a, rfl⟩⟩
  · exact ⟨_, .opq n h, .inr (.inl ⟨a, o, rfl⟩)⟩
  · exact ⟨_, .ptr a, .inr (.inr ⟨a, rfl, fun H => .inr h⟩)⟩
def rLenUS (K : PySem.W.Frag) : List V → Hp → VK → Prop := rLenU K
def rLenS (K : PySem.W.Frag) : DC := fun ds M P => ∃ d ns, ds = [d] ∧ isScr K d ns ∧ P (.int (ns.length : Nat)) M
instance cb_lenS {K : PySem.W.Frag} : CbD (rLenUS K) (rLenS K) := ⟨fun S M H vs ds P Q w hv h k => by
  obtain ⟨d, ns, rfl, e, p⟩ := h
  match vs, hv with
  | [v], .cons h0 .nil =>
    obtain ⟨a, rfl, hs⟩ := scr_get h0 e
    refine ⟨_, .inl hs, ?_⟩
    rw [List.length_map]
    exact k _ S M _ H p .refl w (.int _)⟩
def spPotD (K : PySem.W.Frag) : DC := fun ds M P => ∃ (d : D) (ns : List Int) (i : Nat), ds = [d, .int i] ∧ isScr K d ns ∧ ns.length ≤ 63 ∧ i ≤ 63 ∧ ∀ p, P (potD p) M
/-- a new pot, told to be new -/
def spPotN (K : PySem.W.Frag) : Sp := fun vs H Q _ => ∃ (a : Addr) (ns : List Int) (i : Nat), vs = [.ref a, .int i] ∧ SqL K H a (ns.map V.int) ∧ ns.length ≤ 63 ∧ i ≤ 63 ∧ ∀ (p : Addr) (H' : Hp), Same H H' → H p = none → Pot H' p → Q (.ref p) H'
theorem fn_newPotN {P : Program} {w : World} {K : PySem.W.Frag} {mg : Str → Option Value} {base : Heap} {k : Nat} {f : Addr} {fd : FuncData} {ps : List Str} (F : FnOk P w K mg base L2.CX0 k f fd ps (spPot1 K)) (h2 : ps.length = 2) : FnOk P w K mg base L2.CX0 k f fd ps (spPotN K) := by
  refine fn_potOut F (fun vs H Q E h => ?_) (fun vs H Q E h => ?_)
  · obtain ⟨a, ns, i, rfl, _⟩ := h
    rw [h2]
    rfl
  · obtain ⟨a, ns, i, rfl, hS, hn, hi, q⟩ := h
    refine ⟨a, ns, i, rfl, hS, hn, hi, fun p x y z H' e hp hx => ⟨p, x, y, z, hx, q p _ (fun c o hc => ?_) hp upd_same⟩⟩
    rw [upd_ne (ne_of_none hc hp)]
    exact e c o hc
theorem pot_lift {K : PySem.W.Frag} : ∀ vs H Q E, lift (spPotD K) vs H Q E → spPotN K vs H Q E := by
  rintro vs H Q E ⟨S, M, ds, P, w, h, ⟨d, ns, i, rfl, e, hl, hi, q⟩, k⟩
  match vs, h with
  | [_, _], .cons h1 (.cons (.int _) .nil) =>
    obtain ⟨a, rfl, hs⟩ := scr_get h1 e
    exact ⟨a, ns, i, rfl, hs, hl, hi, fun p H' e hn hp => k _ S M _ H' (q p) (.same e) (w.same e) (.opq (w.ns hn) hp)⟩
/-- what the law keeps: tables with what their codes are called, the modules' dict -/
def M0 (Ts : List (Addr × Str)) : Mem := fun b => if b = sysModules then some .sys else (Ts.lookup b).map .tab
def spLawD (K : PySem.W.Frag) (Ts : List (Addr × Str)) : DC := fun ds M P => ∃ (d : D) (ns : List Int), ds = [d] ∧ isScr K d ns ∧ ns.length ≤ 63 ∧ M = M0 Ts ∧ P (.bl true) M
def spLawT (K : PySem.W.Frag) (cs : List (Addr × Addr)) : Sp := fun vs H Q _ => ∃ (a : Addr) (ns : List Int), vs = [.ref a] ∧ SqL K H a (ns.map V.int) ∧ ns.length ≤ 63 ∧ (∀ p ∈ cs, H p.2 = some (.tbl #[])) ∧ SysK H ∧ a ∉ cs.map (·.2) ∧ a ≠ sysModules ∧ ∀ H', Q (.bl true) H'
theorem look_memT {b : Addr} {q : Str} : ∀ {Ts : List (Addr × Str)}, Ts.lookup b = some q → (b, q) ∈ Ts
  | [], h => by cases h
  | (a, r) :: Ts, h => by
    rw [List.lookup_cons] at h
    cases c : b == a with
    | true =>
      rw [c] at h
      cases h
      rw [eq_of_beq c]
      exact List.mem_cons_self
    | false =>
      rw [c] at h
      exact List.mem_cons_of_mem _ (look_memT h)
theorem law_liftT {K : PySem.W.Frag} {cs : List (Addr × Addr)} {Ts : List (Addr × Str)} (hT : ∀ b ∈ Ts.map (·.1), b ∈ cs.map (·.2)) : ∀ vs H Q E, spLawT K cs vs H Q E → lift (spLawD K Ts) vs H Q E := by
  rintro vs H Q E ⟨a, ns, rfl, hs, hl, ht, hy, na, ns1, q⟩
  have tb : ∀ b ∈ Ts.map (·.1), H b = some (.tbl #[]) := fun b hb => by
    obtain ⟨p, hp, e⟩ := List.mem_map.mp (hT b hb)
    rw [← e]
    exact ht p hp
  obtain ⟨o, es, ep, ho, hd⟩ := hy
  have nS : ¬ (a = sysModules ∨ a ∈ Ts.map (·.1)) := fun z => z.elim ns1 fun z => na (hT a z)
  obtain ⟨d, h1, h2⟩ := scr_of (S := fun b => b = sysModules ∨ b ∈ Ts.map (·.1)) hs nS
  refine ⟨fun b => b = sysModules ∨ b ∈ Ts.map (·.1), M0 Ts, [d], fun d _ => d = .bl true, ⟨fun b hb => ?_, fun b mo e => ?_⟩, .cons h1 .nil, ⟨d, ns, rfl, h2, hl, rfl, rfl⟩, fun d S' M' v H' e t w h => ?_⟩
  · rcases hb with rfl | hb
    · rw [ho]; exact fun z => nomatch z
    · rw [tb b hb]; exact fun z => nomatch z
  · unfold M0 at e
    split at e
    · rename_i c
      cases e
      rw [c]
      exact ⟨.inl rfl, o, es, ep, ho, hd⟩
    · obtain ⟨q', hq, rfl⟩ := Option.map_eq_some_iff.mp e
      have hm : b ∈ Ts.map (·.1) := List.mem_map.mpr ⟨_, look_memT hq, rfl⟩
      exact ⟨.inr hm, #[], tb b hm, True.intro, fun pos cv hc => by
        have z : codeAmong pos [] = some cv := hc
        simp [codeAmong] at z⟩
  · subst e
    cases h
    exact q H'
end V
namespace V
open PySem PySem.Spec PyProof.Rows L2 U StX
theorem lawGT {P : Program} {w : World} {K : PySem.W.Frag} {mg mb : Str → Option Value} {k : Nat} {fa a : Addr} {cs : List (Addr × Addr)} {fd : FuncData} {x : Str} {s₁ : Shared} {vs : List Value} {ns : List Int} {o1 : Obj} {es1 : Array DictEntry} {ep1 : Nat}
    (KX : K.In s₁.heap) (hns : s₁.heap.Ns mainGlobals mg) (hb : s₁.heap.Ns builtinsNs mb) (hbb : ∀ x : Str, x ≠ "__name__" → mb x = bootBuiltins x) (hlim : s₁.heap.NoLimit) (hg : s₁.gens = #[])
    (hT : ∀ p ∈ cs, s₁.heap.get? p.2 = some { cls := .none, data := .fields #[] }) (nT : ∀ p ∈ cs, K.lookup p.2 = none) (C : ∀ p ∈ cs, PySem.W.CodeHd s₁.heap p.1 p.2)
    (h1 : s₁.heap.get? sysModules = some o1) (hd1 : o1.data = .dict es1 ep1) (n1 : K.lookup sysModules = none)
    (hbm : ∃ (bm : Addr) (ob : Obj), mg "__builtins__" = some (.ref bm) ∧ bm ≠ builtinsNs ∧ s₁.heap.get? bm = some ob ∧ ob.cls = .type "module" ∧ ob.dict = some builtinsNs ∧ ob.data = .plain)
    (ha : s₁.heap.get? a = some { cls := .type "list", data := .seq vs.toArray }) (hi : IntsAre vs ns) (hl : ns.length ≤ 63) (hr : Room k callerA)
    (F : ∀ base : Heap, K.In base → base.Ns mainGlobals mg → (∀ p ∈ cs, LamX.TabB base mg p.1 p.2) → FnG P w K mg base k fa fd [x] (spLawT K cs)) (hbind : ∀ (s : Shared) (u : Value), BindsTo s fd ⟨[u], []⟩ [(x, u)]) :
    codeAny (model P w) callerA (.call (.ref fa) ⟨[.ref a], []⟩) (fun r s' => r = .ok (.ret (.bool true)) ∧ OldK s₁.heap s'.heap ∧ s'.os = s₁.os ∧ AllBare s'.gens) s₁ := by
  have rv := vals_ints hi
  have lenV := hi.length
  have hl2 : ns.length ≤ sizeLine := Nat.le_trans hl (by decide)
  have isT : ∀ b : Addr, b ∈ cs.map (·.2) → s₁.heap.get? b = some { cls := .none, data := .fields #[] } := fun b hb => by
    obtain ⟨p, hp, e⟩ := List.mem_map.mp hb
    rw [← e]
    exact hT p hp
  have aT : a ∉ cs.map (·.2) := fun z => by
    have q := isT a z
    rw [ha] at q
    have z' : Data.seq vs.toArray _ = Data.fields #[] := congrArg Obj.data (Option.some.inj q)
    cases z'
  have sT : sysModules ∉ cs.map (·.2) := fun z => by
    have q := isT _ z
    rw [h1] at q
    cases Option.some.inj q
    cases hd1
  have sa : a ≠ sysModules := fun z => by
    rw [z, h1] at ha
    cases Option.some.inj ha
    cases hd1
  have memT : ∀ p ∈ cs, p.2 ∈ cs.map (·.2) := fun p hp => List.mem_map.mpr ⟨p, hp, rfl⟩
  -- from an abstract heap in which nothing but the script, the tables and the modules' dict may be tracked
  have core : ∀ H : Hp, (∀ p ∈ cs, H p.2 = some (.tbl #[])) → H sysModules = some (.frz o1 (.ext fun _ => True)) → (∀ b, H b = none ∨ b ∈ cs.map (·.2) ∨ ∃ o u, H b = some (.frz o u)) → SqL K H a (ns.map V.int) → HOk P w H s₁.heap → (∀ b, H b ≠ none → b = a ∨ b = sysModules ∨ b ∈ cs.map (·.2)) → (H a ≠ none → K.lookup a = none) →
      codeAny (model P w) callerA (.call (.ref fa) ⟨[.ref a], []⟩) (fun r s' => r = .ok (.ret (.bool true)) ∧ OldK s₁.heap s'.heap ∧ s'.os = s₁.os ∧ AllBare s'.gens) s₁ := by
    intro H hH h1H hO hS hok hA hK
    have base_of : ∀ {b : Addr} {o : Obj}, s₁.heap.get? b = some o → H b = none → (hidT s₁.heap H).get? b = some o := fun e n => hidT_get e n
    have noD : ∀ {b : Addr} {o : Obj}, s₁.heap.get? b = some o → b ≠ sysModules → (∀ vs n, o.data ≠ .seq vs n) → o.data ≠ .fields #[] → H b = none := fun {b o} e hs h1 h2 => by
      cases q : H b with
      | none => rfl
      | some u =>
        rcases hA b (by rw [q]; simp) with e' | e' | e'
        · rw [e', ha] at e
          cases e
          exact (h1 _ _ rfl).elim
        · exact (hs e').elim
        · rw [isT b e'] at e
          cases e
          exact (h2 rfl).elim
    have noA : ∀ {b : Addr} {o : Obj} {es : Array DictEntry} {ep : Nat}, s₁.heap.get? b = some o → b ≠ sysModules → o.data = .dict es ep → H b = none := fun {b o es ep} e hs d => by
      refine noD e hs (fun vs n z => ?_) fun z => ?_
      · rw [d] at z
        cases z
      · rw [d] at z
        cases z
    have nsK : ∀ {b : Addr} {m : Str → Option Value}, b ≠ sysModules → s₁.heap.Ns b m → (hidT s₁.heap H).Ns b m := fun {b m} hs ⟨o, es, ep, e, d, r⟩ => ⟨o, es, ep, base_of e (noA e hs d), d, r⟩
    have hKb : K.In (hidT s₁.heap H) := fun b o e => base_of (KX b o e) (by
      cases q : H b with
      | none => rfl
      | some u =>
        rcases hA b (by rw [q]; simp) with e' | e' | e'
        · rw [e'] at e q
          rw [hK (by rw [q]; simp)] at e
          cases e
        · rw [e', n1] at e
          cases e
        · obtain ⟨p, hp, ep⟩ := List.mem_map.mp e'
          rw [← ep, nT p hp] at e
          cases e)
    have hM : L2.Mod K mg (hidT s₁.heap H) := ⟨hKb, nsK (by decide) hns, ⟨mb, nsK (by decide) hb, hbb⟩, let ⟨mc, h1, h2⟩ := hlim; ⟨mc, nsK (by decide) h1, h2⟩⟩
    have TB : ∀ p ∈ cs, LamX.TabB (hidT s₁.heap H) mg p.1 p.2 := fun p hp => by
      have hTp := hT p hp
      refine ⟨?_, ?_, fun z => ?_⟩
      · obtain ⟨o, us, file, tf, flags, tg, inF, text, tt, e1, r1, r2, r3, r4, r5, r6, r7, r8, hne⟩ := C p hp
        refine ⟨o, us, file, tf, flags, tg, inF, text, tt, base_of e1 (noD e1 (fun z => ?_) (fun vs n z => ?_) fun z => ?_), r1, r2, r3, r4, r5, r6, r7, r8, hne⟩
        · rw [z, h1] at e1
          cases e1
          rw [r2] at hd1
          cases hd1
        · rw [r2] at z
          cases z
        · rw [r2] at z
          cases z
          simp at r3
      · obtain ⟨bm, ob, b1, b2, b3, b4, b5, b6⟩ := hbm
        have nG : bm ≠ mainGlobals := fun q => by
          obtain ⟨o, es, ep, e, hd, _⟩ := hns
          rw [q, e] at b3
          cases b3
          rw [hd] at b6
          cases b6
        have nP : bm ≠ p.2 := fun q => by
          rw [q, hTp] at b3
          cases b3
          cases b6
        refine ⟨bm, ob, b1, b2, nG, nP, base_of b3 (noD b3 (fun z => ?_) (fun vs n z => ?_) fun z => ?_), b4, b5, b6⟩
        · rw [z, h1] at b3
          cases b3
          rw [b6] at hd1
          cases hd1
        · rw [b6] at z
          cases z
        · rw [b6] at z
          cases z
      · obtain ⟨o, es, ep, e, hd, _⟩ := hns
        rw [z, hTp] at e
        cases e
        cases hd
    have e0 : Env0 P w K mg (hidT s₁.heap H) callerA [] s₁ H := ⟨rfl, hM, fun b o e => of_hidT e, Nat.le_of_eq (hidT_size _ _), trivial, fun b hb => absurd (show b ∈ ([] : List Addr) from hb) (by simp), hok, .of_eq hg⟩
    refine codeAny_mono ((F _ hKb (nsK (by decide) hns) TB).run callerA [] s₁ H ⟨[.ref a], []⟩ [.ref a] [.ref a] (fun v _ => v = .bl true) (fun _ _ _ => False) hr rfl e0 (hbind s₁ (.ref a)) (.cons rfl .nil) ⟨a, ns, rfl, hS, hl, hH, ⟨o1, es1, ep1, h1H, hd1⟩, aT, sa, fun _ => rfl⟩) fun r s' h => ?_
    cases r with
    | error e => exact False.elim h
    | ok fl =>
      cases fl with
      | next => exact False.elim h
      | brk => exact False.elim h
      | cont => exact False.elim h
      | ret u =>
        obtain ⟨v, H', os, bare, un, hok', r', q⟩ := h
        have q' : v = .bl true := q
        subst q'
        obtain rfl : u = Value.bool true := r'
        have key : ∀ b o, b ∉ cs.map (·.2) → s₁.heap.get? b = some o → s'.heap.get? b = some o := fun b o nb e => by
          cases q : H b with
          | none => exact un.keep b o e q (by intro z; exact absurd (show b ∈ ([] : List Addr) from z) (by simp)) (by simp)
          | some u =>
            rcases hO b with z | z | ⟨ob, xs, z⟩
            · rw [q] at z; cases z
            · exact absurd z nb
            · have z2 := un.frzs b ob _ z
              obtain ⟨e1, _⟩ := hok b _ z
              obtain ⟨e2, _⟩ := hok' b _ z2
              rw [e] at e1; cases e1
              exact e2
        have grown : ∀ p ∈ cs, ∃ more : Array Value, s'.heap.get? p.2 = some { cls := .none, data := .fields more } := fun p hp => by
          obtain ⟨more, z⟩ := un.tbls p.2 #[] (hH p hp)
          exact ⟨_, hok' p.2 _ z⟩
        refine ⟨rfl, ⟨fun b o e => ?_, fun b o e => ?_⟩, os, bare⟩
        · by_cases hb : b ∈ cs.map (·.2)
          · obtain ⟨p, hp, ep⟩ := List.mem_map.mp hb
            obtain ⟨more, hm⟩ := grown p hp
            rw [← ep] at e ⊢
            rw [hT p hp] at e
            cases e
            exact .inr (.inl ⟨((C p hp).tab (hT p hp)).isCodeTable, rfl, #[], more, rfl, by rw [Array.empty_append]; exact hm⟩)
          · exact .inl (key b o hb e)
        · by_cases hb : b ∈ cs.map (·.2)
          · obtain ⟨p, hp, ep⟩ := List.mem_map.mp hb
            obtain ⟨more, hm⟩ := grown p hp
            rw [← ep]
            exact ⟨_, hm⟩
          · exact ⟨o, key b o hb e⟩
  have okS : ∀ H : Hp, ObjOk P w H s₁.heap sysModules (.frz o1 (.ext fun _ => True)) := fun H => ⟨h1, trivial, ⟨_, h1⟩, fun _ _ _ _ => trivial⟩
  cases hk : K.lookup a with
  | some o =>
    have e := KX a o hk
    rw [ha] at e
    cases e
    refine core (fun b => if b ∈ cs.map (·.2) then some (.tbl #[]) else if b = sysModules then some (.frz o1 (.ext fun _ => True)) else none) (fun p hp => if_pos (memT p hp)) ((if_neg sT).trans (if_pos rfl)) (fun b => ?_) (.inr ⟨_, vs.toArray, _, hk, rfl, rfl, rfl, by rw [List.size_toArray, lenV]; exact hl2, by simpa using rv⟩) (fun b u z => ?_) (fun b z => ?_)
      fun z => absurd (show (if a ∈ cs.map (·.2) then some (HO.tbl #[]) else if a = sysModules then some (.frz o1 (.ext fun _ => True)) else none) = none from (if_neg aT).trans (if_neg sa)) z
    · by_cases hb : b ∈ cs.map (·.2)
      · exact .inr (.inl hb)
      · by_cases hs : b = sysModules
        · exact .inr (.inr ⟨_, _, (if_neg hb).trans (if_pos hs)⟩)
        · exact .inl ((if_neg hb).trans (if_neg hs))
    · by_cases hb : b ∈ cs.map (·.2)
      · have z' := (if_pos hb).symm.trans z
        cases z'
        exact isT b hb
      · have z' := (if_neg hb).symm.trans z
        by_cases hs : b = sysModules
        · have z2 := (if_pos hs).symm.trans z'
          cases z2
          rw [hs]
          exact okS _
        · have z2 := (if_neg hs).symm.trans z'
          cases z2
    · by_cases hb : b ∈ cs.map (·.2)
      · exact .inr (.inr hb)
      · by_cases hs : b = sysModules
        · exact .inr (.inl hs)
        · exact absurd ((if_neg hb).trans (if_neg hs)) z
  | none =>
    refine core (fun b => if b = a then some (.frz { cls := .type "list", data := .seq vs.toArray } (.lst (ns.map V.int))) else if b ∈ cs.map (·.2) then some (.tbl #[]) else if b = sysModules then some (.frz o1 (.ext fun _ => True)) else none)
      (fun p hp => (if_neg (show ¬ p.2 = a from fun z => aT (by rw [← z]; exact memT p hp))).trans (if_pos (memT p hp))) ((if_neg (Ne.symm sa)).trans ((if_neg sT).trans (if_pos rfl))) (fun b => ?_)
      (.inl (.inr ⟨{ cls := .type "list", data := .seq vs.toArray }, if_pos rfl⟩)) (fun b u z => ?_) (fun b z => ?_) fun _ => hk
    · by_cases hb : b = a
      · exact .inr (.inr ⟨_, _, if_pos hb⟩)
      · by_cases hb2 : b ∈ cs.map (·.2)
        · exact .inr (.inl hb2)
        · by_cases hs : b = sysModules
          · exact .inr (.inr ⟨_, _, (if_neg hb).trans ((if_neg hb2).trans (if_pos hs))⟩)
          · exact .inl ((if_neg hb).trans ((if_neg hb2).trans (if_neg hs)))
    · by_cases hb : b = a
      · have z' := (if_pos hb).symm.trans z
        cases z'
        rw [hb]
        exact ⟨ha, by rw [List.length_map]; exact hl2, vs, _, rv, ha⟩
      · have z1 := (if_neg hb).symm.trans z
        by_cases hb2 : b ∈ cs.map (·.2)
        · have z' := (if_pos hb2).symm.trans z1
          cases z'
          exact isT b hb2
        · have z' := (if_neg hb2).symm.trans z1
          by_cases hs : b = sysModules
          · have z2 := (if_pos hs).symm.trans z'
            cases z2
            rw [hs]
            exact okS _
          · have z2 := (if_neg hs).symm.trans z'
            cases z2
    · by_cases hb : b = a
      · exact .inl hb
      · by_cases hb2 : b ∈ cs.map (·.2)
        · exact .inr (.inr hb2)
        · by_cases hs : b = sysModules
          · exact .inr (.inl hs)
          · exact absurd ((if_neg hb).trans ((if_neg hb2).trans (if_neg hs))) z
theorem walkGT {l : PySem.W.OpenLaw} {k : Nat} {q : Program} {loose : List Str} {XP : (Str → Option Value) → Heap → Prop} {YP : World → Heap → Prop} {d : DefRec} {K : Params → PySem.W.Frag} {x : Str}
    (hn : l.most = some 63) (hdf : d.params.defaults = []) (hr : Room k callerA) (him : importsNone q = true) (hY : ∀ (w : World) (h : Heap), YP w h → (K w.params).In h)
    (F : ∀ (w : World) (mg : Str → Option Value) (fa : Addr) (h : Heap), YP w h → (K w.params).In h → h.Ns mainGlobals mg → mg d.name = some (.ref fa) →
      ∃ (fd : FuncData) (cs : List (Addr × Addr)), (K w.params).In h ∧ (∀ p ∈ cs, h.get? p.2 = some { cls := .none, data := .fields #[] }) ∧ (∀ p ∈ cs, (K w.params).lookup p.2 = none) ∧ (∀ p ∈ cs, PySem.W.CodeHd h p.1 p.2) ∧ (K w.params).lookup sysModules = none ∧ (∀ (t : Shared) (u : Value), BindsTo t fd ⟨[u], []⟩ [(x, u)]) ∧
        ∀ base : Heap, (K w.params).In base → base.Ns mainGlobals mg → (∀ p ∈ cs, LamX.TabB base mg p.1 p.2) → FnG l.prog w (K w.params) mg base k fa fd [x] (spLawT (K w.params) cs)) :
    PySem.W.WalkO q loose XP YP l.row.toRowW d [] (fun f vs => PySem.call f vs) := by
  refine Att.attach_call hn hdf ?_
  intro w s₀ s₁ mg mb fa o pm cd doc a vs ns G Y ho hd hcd hmg hobj hints hlen hg
  obtain ⟨fd, cs, hK, hT, nT, hC, n1, hb, hF⟩ := F w mg fa _ Y (hY w _ Y) G.T.g hmg
  obtain ⟨mm, ⟨o1, es1, ep1, e1, d1, _⟩, _⟩ := (G.T.seer him).mods
  exact lawGT hK G.T.g G.T.b G.T.builtins G.T.nolimit hg hT nT hC e1 d1 n1 G.T.bmain hobj hints hlen hr hF hb
end V
namespace V
open PySem PySem.Spec PyProof.Rows L2 U StX
theorem mneN {M : Mem} {a b : Addr} {o : MO} (h' : M a = none) (h : M b = some o) : a ≠ b := by
  rintro rfl
  rw [h] at h'
  cases h'
/-- neither a table nor the modules' dict -/
def noTab : MO → Prop
  | .tab _ => False
  | .sys => False
  | _ => True
theorem mneT {M : Mem} {a b : Addr} {o : MO} {q : Str} (h' : M a = some o) (n : noTab o) (h : M b = some (.tab q)) : a ≠ b := by
  rintro rfl
  rw [h] at h'
  cases h'
  exact n
theorem mneS {M : Mem} {a b : Addr} {o : MO} (h' : M a = some o) (n : noTab o) (h : M b = some .sys) : a ≠ b := by
  rintro rfl
  rw [h] at h'
  cases h'
  exact n
theorem ne_of_beqF {a b : Addr} (h : (a == b) = false) : a ≠ b := fun e => by
  rw [e] at h
  simp at h
def dEither (a b : DE) : DE := fun δ M P => a δ M P ∨ b δ M P
abbrev dEitherX (a b : QX → DE) : QX → DE := fun q => dEither (a q) (b q)
theorem x_orL {a b : QX → DE} {q : QX} {δ : Dl} {M : Mem} {P : QD} (h : a q δ M P) : dEitherX a b q δ M P := .inl h
theorem x_orR {a b : QX → DE} {q : QX} {δ : Dl} {M : Mem} {P : QD} (h : b q δ M P) : dEitherX a b q δ M P := .inr h
end V
namespace V
open PySem PySem.Spec PyProof.Rows L2 U StX
abbrev dOpX (r : DR) (a : QX → DE) (b : DE) : QX → DE := fun q => dOp r (a q) b
section
variable {E : XK} {ta tb : TE} {da : QX → DE} {db : DE} {r : R2} {rd : DR}
instance pux_op [A : PuXE E ta da] [B : PuE tb db] [R : OpD r rd] : PuXE E (tOp r ta tb) (dOpX rd da db) := ⟨fun S M σ δ H P q Q w e h k x =>
  A.run S M σ δ H _ q _ w e h (fun d S1 M1 v H1 p1 t1 w1 h1 =>
    B.run S1 M1 σ δ H1 _ _ w1 (e.step w t1) p1 fun d2 S2 M2 v2 H2 p2 t2 w2 h2 =>
      R.run S2 M2 H2 _ _ _ _ P Q w2 (dt_step w1 t2 _ h1) h2 p2 (k.go (t1.trans t2))) x⟩
end
def dCallLX (i : Nat) (f : Addr) (sp : DCX) (q : QX) (t : DA) : DE := fun δ M P => δ[i]? = some (some (.ptr f)) ∧ t δ M fun ds M1 => sp ds M1 P q
def dCallLN (i : Nat) (f : Addr) (n : Nat) (sp : DCX) (g : List D → List D → List D) (q : QX) (tk : DA) : DE := fun δ M P => δ[i]? = some (some (.ptr f)) ∧ tk δ M fun es M1 => es.length = n ∧ sp (g [] es) M1 P q
section
variable {δ : Dl} {M : Mem} {P : QD} {t : DA} {q : QX} {nx : QS} {rt : QD} {G : Mem → Prop} {g : DG} {b : DS} {x d : D} {xs : List D}
theorem x_callLX {i : Nat} {f : Addr} {sp : DCX} {v : D} (e : δ[i]? = some (some v)) (e2 : v = .ptr f) (h : t δ M fun ds M1 => sp ds M1 P q) : dCallLX i f sp q t δ M P := ⟨by rw [← e2]; exact e, h⟩
theorem x_callLN {i n : Nat} {f : Addr} {sp : DCX} {gD : List D → List D → List D} {v : D} (e : δ[i]? = some (some v)) (e2 : v = .ptr f) (h : t δ M fun es M1 => es.length = n ∧ sp (gD [] es) M1 P q) : dCallLN i f n sp gD q t δ M P := ⟨by rw [← e2]; exact e, h⟩
theorem x_opX {r : DR} {a : QX → DE} {c : DE} (h : a q δ M fun x M1 => c δ M1 fun y M2 => r x y M2 P) : dOpX r a c q δ M P := h
theorem x_loopC (h : g x δ M fun δ1 M1 => b (fun δ' M' => G M' ∧ dLoop G g b nx rt xs δ' M') rt nx (fun δ' M' => G M' ∧ dLoop G g b nx rt xs δ' M') δ1 M1) : dLoop G g b nx rt (x :: xs) δ M := h
theorem x_loopN (h : nx δ M) : dLoop G g b nx rt [] δ M := h
/-- an append, its two steps -/
theorem x_ap1 {l : Addr} {p : Addr → Prop} (h : M l = some (.lst xs)) (q : p l) : ∃ l', D.ptr l = D.ptr l' ∧ (∃ xs, M l' = some (.lst xs)) ∧ p l' := ⟨l, rfl, ⟨xs, h⟩, q⟩
theorem x_ap2 {l : Addr} {N : Nat} {p : List D → D → Prop} (h : M l = some (.lst xs)) (hl : xs.length < N) (q : p xs d) : ∃ xs y, [d] = [y] ∧ M l = some (.lst xs) ∧ xs.length < N ∧ p xs y := ⟨xs, d, rfl, h, hl, q⟩
end
theorem kt_of {K : PySem.W.Frag} {C : Addr} (h1 : PySem.W.kitOne K (.type "NoneType") (.ref C) = some false) (h2 : PySem.W.kitOne K (.type "bool") (.ref C) = some false) (h3 : PySem.W.kitOne K (.type "int") (.ref C) = some false) (h4 : PySem.W.kitOne K (.type "str") (.ref C) = some false)
    (h5 : PySem.W.kitOne K (.type "list") (.ref C) = some false) (h6 : PySem.W.kitOne K (.type "tuple") (.ref C) = some false) (h7 : PySem.W.kitOne K (.type "dict") (.ref C) = some false) : ∀ t ∈ (["NoneType", "bool", "int", "str", "list", "tuple", "dict"] : List String), PySem.W.kitOne K (.type t) (.ref C) = some false := fun t ht => by
  simp only [List.mem_cons, List.not_mem_nil, or_false] at ht
  rcases ht with rfl | rfl | rfl | rfl | rfl | rfl | rfl
  · exact h1
  · exact h2
  · exact h3
  · exact h4
  · exact h5
  · exact h6
  · exact h7
theorem kx_of {K : PySem.W.Frag} {C : Addr} (h3 : PySem.W.kitOne K (.ref C) (.type "int") = some false) (h2 : PySem.W.kitOne K (.ref C) (.type "bool") = some false) (h4 : PySem.W.kitOne K (.ref C) (.type "str") = some false)
    (h5 : PySem.W.kitOne K (.ref C) (.type "list") = some false) (h6 : PySem.W.kitOne K (.ref C) (.type "tuple") = some false) (h7 : PySem.W.kitOne K (.ref C) (.type "dict") = some false) : ∀ t ∈ (["int", "bool", "str", "list", "tuple", "dict"] : List String), PySem.W.kitOne K (.ref C) (.type t) = some false := fun t ht => by
  simp only [List.mem_cons, List.not_mem_nil, or_false] at ht
  rcases ht with rfl | rfl | rfl | rfl | rfl | rfl
  · exact h3
  · exact h2
  · exact h4
  · exact h5
  · exact h6
  · exact h7
theorem sizeLineN : sizeLine = 16777216 := by rw [sizeLine_eq]
theorem mset_comm {M : Mem} {a b : Addr} {o u : MO} (h : a ≠ b) : mset (mset M a o) b u = mset (mset M b u) a o := by
  funext c
  by_cases h1 : c = b
  · subst h1
    rw [mset_same, mset_ne (Ne.symm h), mset_same]
  · by_cases h2 : c = a
    · subst h2
      rw [mset_ne h1, mset_same, mset_same]
    · rw [mset_ne h1, mset_ne h2, mset_ne h2, mset_ne h1]
theorem mset_set2 {M : Mem} {a b : Addr} {o u o' : MO} (h : b ≠ a) : mset (mset (mset M a o) b u) a o' = mset (mset M a o') b u := by
  rw [mset_comm h, mset_set]
theorem mset_get2 {M : Mem} {a b : Addr} {o u : MO} (h : a ≠ b) : mset (mset M a o) b u a = some o := by rw [mset_ne h, mset_same]
end V
namespace V
open PySem PySem.Spec PyProof.Rows L2 U StX
end V
namespace V
open PySem PySem.Spec PyProof.Rows L2 U StX
def rSplit1 : DR := fun x y M P => ∃ z s, x = .str z ∧ y = .str s ∧ (s.length == 0) = false ∧ z.length + 2 ≤ sizeLine ∧ P (.lst ((Txt.split z s).map D.str)) M
def dJoin1S (a b : DE) : DE := fun δ M P => a δ M fun x M1 => (∃ z, x = .str z) ∧ b δ M1 fun y M2 => rSplit1 x y M2 P
theorem x_split {a b : DE} {δ : Dl} {M : Mem} {P : QD} (h : a δ M fun x M1 => (∃ z, x = .str z) ∧ b δ M1 fun y M2 => rSplit1 x y M2 P) : dJoin1S a b δ M P := h
end V
namespace V
open PySem PySem.Spec PyProof.Rows L2 U StX
theorem atI_lastX {α : Type} (xs : List α) (x : α) : atI (xs ++ [x]) (-1) = some x := by
  unfold atI ixN
  rw [if_neg (by decide), List.length_append, List.length_singleton, if_pos (by omega)]
  rw [show (-1 + ((xs.length + 1 : Nat) : Int)).toNat = xs.length by omega]
  simp
theorem cutG_init {α : Type} (xs : List α) (x : α) : cutG (xs ++ [x]) none (some (-1)) = xs := by
  unfold cutG
  rw [HT.sIx_none]
  have e : ∀ n : Nat, HT.sIx (n + 1) (n + 1) (some (-1)) = n := fun n => by
    unfold HT.sIx
    simp only
    rw [if_pos (by decide)]
    omega
  rw [List.length_append, List.length_singleton, e]
  simp
end V
namespace V
open PySem PySem.Spec PyProof.Rows L2 U
section
variable {X : Cx} {n : Nat} {f : Addr} {fd : FuncData} {ps : List Str} {C : Addr} {sp : Sp}
def rLenO (C : Addr) (sp : Sp) : List V → Hp → VK → Prop := fun xs H Q => ∃ (a : Addr) (dx : Addr) (fs : List (Str × V)), xs = [.ref a] ∧ H a = some (.ins C dx fs) ∧ sp [.ref a] H (fun v H' => ∃ m : Int, v = .int m ∧ 0 ≤ m ∧ m < 2 ^ 63 ∧ Q (.int m) H') L2.E0
theorem call_lenO (hb : Binds X.K fd ps []) (F : FnOk X.prog X.w X.K X.mg X.base L2.CX0 n f fd ps sp) (hr : Room (n + 1) X.A) (hs : PySem.W.findIn X.K (.ref C) "__len__" = some (some (.ref f))) (hf : PySem.W.isFn X.K (.ref f) = true) : CallR X (.builtin "len") (rLenO C sp) := by
  intro pins s σ H xs us Q I r h
  obtain ⟨a, dx, fs, rfl, ha, hsp⟩ := h
  match us, r with
  | [u], .cons ru .nil =>
    cases ru
    obtain ⟨mA, J, _⟩ := ins_get I.hok ha
    obtain ⟨od, J, _⟩ := J.look
    obtain ⟨m, hF⟩ := I.fr
    have sb : Sub X n X.A.in1 := ⟨hr.in1, rfl⟩
    refine PySem.W.len_K hF I.ok.mod.kin J hs hf ?_
    have e0 : Env0 X.prog X.w X.K X.mg X.base X.A.in1 X.stack s H := by
      have e := I.env0
      exact ⟨by rw [sb.fr]; exact e.frames, e.mod, e.bs, e.bsz, e.funs, e.frf, e.hok, e.bare⟩
    have hl := F.len _ _ _ _ hsp
    have r2 : Vals [V.ref a] [Value.ref a] := .cons rfl .nil
    refine wpAny_call (codeAny_mono (F.run X.A.in1 X.stack s H ⟨[.ref a], []⟩ [.ref a] [.ref a] _ L2.E0 sb.room e0 (by
      have := hb s [.ref a] I.kIn (by simpa using hl)
      simpa using this) r2 hsp) fun r s' hq => ?_)
    cases r with
    | error e => exact L2.pass0 pins σ H s e s' I hq
    | ok fl =>
      cases fl with
      | ret w =>
        obtain ⟨z, H', I', rz, k, ez, k0, k1, q⟩ := I.after hq
        subst ez
        obtain ⟨t, rfl⟩ := rz
        exact ⟨⟨k0, k1⟩, .int k, H', I'.tok _, ⟨_, rfl⟩, q⟩
      | next => exact False.elim hq
      | brk => exact False.elim hq
      | cont => exact False.elim hq
def rLenO1 (C : Addr) (sp : DC) : DC := fun ds M P => ∃ p fs, ds = [.ptr p] ∧ M p = some (.ins C fs) ∧ sp [.ptr p] M fun d M' => ∃ m : Int, d = .int m ∧ 0 ≤ m ∧ m < 2 ^ 63 ∧ P (.int m) M'
instance cb_lenO {C : Addr} {sp : DC} : CbD (rLenO C (lift sp)) (rLenO1 C sp) := ⟨fun S M H vs ds P Q w hv h k => by
  obtain ⟨p, fs, rfl, hm, q⟩ := h
  match vs, hv with
  | [v], .cons h1 .nil =>
    obtain ⟨a, dx, fs', rfl, ha, _, _⟩ := in_get w h1 (.inr ⟨p, fs, rfl, hm, rfl, rfl⟩)
    refine ⟨a, dx, fs', rfl, ha, S, M, [.ptr p], _, w, .cons h1 .nil, q, fun d S' M' v' H' e st w' hd => ?_⟩
    obtain ⟨m, rfl, k0, k1, pp⟩ := e
    cases hd
    exact ⟨m, rfl, k0, k1, k _ S' M' _ H' pp st w' (.int m)⟩⟩
end
end V
namespace V
open PySem PySem.Spec PyProof.Rows L2 U StX
structure FnQ (P : Program) (w : World) (K : PySem.W.Frag) (mg : Str → Option Value) (base : Heap) (k : Nat) (f : Addr) (fd : FuncData) (ps : List Str) (sp : Sp) : Prop where
  len : ∀ vs H Q E, sp vs H Q E → vs.length = ps.length
  run : ∀ (A : Around) (outer : List Env) (s : Shared) (H : Hp) (args : Args) (us : List Value) (vs : List V) (Q : VK) (E : XK), L2H.RoomH k A → Env0 P w K mg base A outer s H → BindsTo s fd args (ps.zip us) → Vals vs us → sp vs H Q E →
    codeAny (model P w) A (.call (.ref f) args) (CR C8.CX0 outer P w H s Q E) s
/-- the context of such a def's body -/
def cxQ (P : Program) (w : World) (K : PySem.W.Frag) (mg : Str → Option Value) (base : Heap) (N : List Str) (qual : Str) (scope : Scope) (f : Addr) (cd : Value) (A : Around) (outer : List Env) (s : Shared) (H : Hp) (E : XK) : Cx :=
  { (cxOf C8.CX0 P w K mg base N qual scope f cd A outer s H E).nox with calm := false }
theorem inv_startQ {P : Program} {w : World} {K : PySem.W.Frag} {mg : Str → Option Value} {base : Heap} {N ps : List Str} {qual : Str} {scope : Scope} {f : Addr} {cd : Value} {A : Around} {outer : List Env} {s s1 : Shared} {H : Hp} {E : XK} {us : List Value} {vs : List V}
    (S : FnScope N ps scope) (e0 : Env0 P w K mg base A outer s H) (hl : vs.length = ps.length) (r : Vals vs us)
    (x : InCallC s s.heap.objs.size (bindL (envOfC qual scope s.heap.objs.size f cd).kindOf (ps.zip us) fun _ => none) (cellsFrom (s.heap.objs.size + 1) scope.names []) (bindC (envOfC qual scope s.heap.objs.size f cd).kindOf (ps.zip us) fun _ => none) s1) :
    Inv (cxQ P w K mg base N qual scope f cd A outer s H E) [] (L2.start N vs) H s1 := by
  have hpl : ps.length ≤ N.length := by have := congrArg List.length S.pre; rw [List.length_take] at this; omega
  obtain ⟨h1, tk, rfl, hk⟩ := x.done
  have noA : ∀ b : Addr, b ∉ (cxQ P w K mg base N qual scope f cd A outer s H E).ex := fun b z => absurd (show b ∈ ([] : List Addr) from z) (by simp)
  refine ⟨⟨e0.mod, S.kind, rfl, rfl, Nat.le_refl _, fun y z c h1 h2 => ?_, fun y hy => ?_, fun y c _ h => ?_, (fun z => Bool.noConfusion (show false = true from z)), Around.frames_deeper e0.frames, .inr ⟨rfl, rfl⟩, fun b z => absurd z (noA b), e0.bs, e0.bsz, fun b _ _ => noA b, fun b z => absurd z (noA b), e0.funs, e0.frf⟩,
    rfl, e0.bare, Un.kept hk, ⟨_, x.toInCall.ns, fun i y v h1 h2 h3 => ?_⟩, fun y c h => ⟨_, x.cell y c h⟩, e0.hok.fresh (Nat.le_refl _), fun y c h => ?_, fun q hq => ?_, e0.hok.kept hk, ?_⟩
  · exact name_of_addr x.apart (PySem.mem_of_lookup h1) (PySem.mem_of_lookup h2)
  · have hy : scope.names.lookup y = some .cell ∨ scope.names.lookup y = some .free := hy
    rcases hy with hy | hy
    · exact cell_has hy
    · exact absurd rfl (S.nofree _ (PySem.mem_of_lookup hy))
  · exact Nat.le_of_lt (x.above y c (PySem.mem_of_lookup h))
  · have hi : i < vs.length := by
      unfold L2.start at h2
      by_cases hi : i < vs.length
      · exact hi
      · rw [List.getElem?_append_right (by simpa using hi)] at h2
        rw [List.getElem?_replicate] at h2
        split at h2 <;> cases h2
    have ha : vs[i]? = some v := by
      unfold L2.start at h2
      rw [List.getElem?_append_left (by simpa using hi), List.getElem?_map] at h2
      cases e : vs[i]? with
      | none => rw [e] at h2; cases h2
      | some a => rw [e] at h2; cases h2; rfl
    obtain ⟨u, hu, rv⟩ := r.get ha
    have hp : ps[i]? = some y := by
      rw [← S.pre, List.getElem?_take_of_lt (by omega)]; exact h1
    have ndP : ps.Nodup := by rw [← S.pre]; exact S.nd.sublist (List.take_sublist _ _)
    refine ⟨u, rv, ?_⟩
    rcases S.par y (List.mem_of_getElem? hp) with k | k
    · exact .inl ⟨k, bindL_get ndP hp hu k⟩
    · obtain ⟨c, e⟩ := cell_has (n := s.heap.objs.size + 1) k
      refine .inr ⟨.inl k, c, e, ?_⟩
      have q := x.cell y c e
      rw [bindC_get ndP hp hu (by show scope.names.lookup y ≠ _; rw [k]; decide)] at q
      exact q
  · exact e0.hok.fresh (Nat.le_of_lt (x.above y c (PySem.mem_of_lookup h)))
  · exact absurd (show q ∈ ([] : List (Addr × Obj)) ++ [] from hq) (by simp)
  · unfold L2.start
    show _ = N.length
    rw [List.length_append, List.length_map, List.length_replicate]
    omega
section
variable {P : Program} {w : World} {K : PySem.W.Frag} {mg : Str → Option Value} {base : Heap} {x qual : Str} {st : Stmt} {f : Addr} {fd : FuncData} {N ps : List Str} {k : Nat} {sp : Sp} {sd : DC}
theorem fnQ_of (F : L2.Fun K x qual st f fd) (S : FnScope N ps (L2.defScope st)) (len : ∀ vs H Q E, sp vs H Q E → vs.length = ps.length)
    (hb : ∀ (cdv : Value) (A : Around) (outer : List Env) (s : Shared) (H : Hp) (vs : List V) (Q : VK) (E : XK), L2H.RoomH k (A.deeper (envOfC qual (L2.defScope st) s.heap.objs.size f cdv)) → sp vs H Q E →
      ∃ t, PSs (cxQ P w K mg base N qual (L2.defScope st) f cdv A outer s H E) (L2.defBody st) t ∧ t { nx := fun _ H' => Q .non H', rt := Q } (L2.start N vs) H) :
    FnQ P w K mg base (k + 1) f fd ps sp := by
  obtain ⟨oc, od, kV, doc, pm, an, cdv, ct, osl, rfl, lk, hcd⟩ := F.ex
  refine ⟨len, fun A outer s H args us vs Q E hr e0 hbd r hsp => ?_⟩
  have hl : vs.length = ps.length := len _ _ _ _ hsp
  have KX : K.In s.heap := e0.mod.kin.keeps (fun b o e => (e0.bs b o e).1)
  have lim : s.heap.NoLimit := e0.mod.nolimit.keeps (fun b o e => (e0.bs b o e).1)
  have kinds : ∀ y ∈ ps.zip us, (L2.defScope st).names.lookup y.1 = some .local ∨ ((L2.defScope st).names.lookup y.1 = some .cell ∧ ((cellsFrom (s.heap.objs.size + 1) (L2.defScope st).names []).lookup y.1).isSome = true) := by
    rintro ⟨n, v⟩ hy
    rcases S.par n (List.of_mem_zip hy).1 with q | q
    · exact Or.inl q
    · exact Or.inr ⟨q, PySem.W.cellsFrom_some _ _ _ (Or.inl q)⟩
  refine codeAny_call_function hr.depth (KX _ _ lk) rfl S.co S.gen rfl (PySem.W.codeRec_of KX hcd) (hbd _ _ _ _ ?_)
  refine wpAny_newFunctionEnv_cells S.kind kinds (fun env he s1 z => ?_)
  subst he
  refine ⟨lim.keeps z.toInCall.keep, codeAny_func ?_⟩
  obtain ⟨t, ht0, hq⟩ := hb cdv A outer s H vs Q E (hr.deeper _) hsp
  have I := inv_startQ (E := E) S e0 hl r z
  refine wpAny_mono (ht0.run [] s1 (L2.start N vs) H _ I hq) ?_ (fun e s' hs => False.elim hs)
  intro fl s' hs
  cases fl with
  | next =>
    obtain ⟨σ', H', J, q⟩ := hs
    exact ⟨V.non, H', J.os, J.bare, J.base, J.hok, rfl, q⟩
  | brk =>
    obtain ⟨_, _, _, q⟩ := hs
    exact q.elim
  | cont =>
    obtain ⟨_, _, _, q⟩ := hs
    exact q.elim
  | ret u =>
    obtain ⟨v, σ', H', J, rv, q⟩ := hs
    exact ⟨v, H', J.os, J.bare, J.base, J.hok, rv, q⟩
theorem fnQD (F : L2.Fun K x qual st f fd) (S : FnScope N ps (L2.defScope st)) (len : ∀ ds M P, sd ds M P → ds.length = ps.length)
    (hb : ∀ (cdv : Value) (A : Around) (outer : List Env) (s : Shared) (H : Hp) (E : XK), L2H.RoomH k (A.deeper (envOfC qual (L2.defScope st) s.heap.objs.size f cdv)) →
      ∃ t, PSs (cxQ P w K mg base N qual (L2.defScope st) f cdv A outer s H E) (L2.defBody st) t ∧ ∃ dt, PuS t dt ∧ ∀ ds M P, sd ds M P → dt (fun _ M' => P .non M') P (fun _ _ => False) (fun _ _ => False) (startD N ds) M) :
    FnQ P w K mg base (k + 1) f fd ps (lift sd) :=
  fnQ_of F S (liftLen len) fun cdv A outer s H vs Q E hr h => by
    obtain ⟨t, ht, dt, AA, go⟩ := hb cdv A outer s H E hr
    refine ⟨t, ht, ?_⟩
    obtain ⟨S, M, ds, R, w, h, p, k⟩ := h
    exact AA.run S M _ _ H _ _ _ _ _ w (en_start N h) (go ds M R p) ⟨fun δ' S' M' σ' H' q t w e => k _ S' M' _ H' q t w .non, k, fun _ _ _ _ _ q => q.elim, fun _ _ _ _ _ q => q.elim⟩
/-- a quiet def is one that may be called from where nothing is caught -/
theorem FnQ.ok (F : FnQ P w K mg base k f fd ps sp) : FnOk P w K mg base C8.CX0 k f fd ps sp := ⟨F.len, fun A outer s H args us vs Q E hr e0 hb r h => F.run A outer s H args us vs Q E (L2H.roomH_of hr) e0 hb r h⟩
end
section
variable {X : Cx} {k : Nat} {f : Addr} {fd : FuncData} {ps : List Str} {sp : Sp} {x : Str} {p pos : Pos} {e : Expr} {es : List Expr} {t : TA} {pins : List (Addr × Obj)} {σ : L2.St} {H : Hp} {s : Shared} {Q : VK} {us : List Value} {vs : List V}
theorem run_fnQ (F : FnQ X.prog X.w X.K X.mg X.base k f fd ps sp) (hr : L2H.RoomH k X.A) (hb : Binds X.K fd ps []) (I : Inv X pins σ H s) (r : Vals vs us) (h : sp vs H Q C8.E0) : wpAny (model X.prog X.w) X.A (call (.ref f) us) (EP X pins σ Q) X.xe s := by
  have hl : us.length = ps.length := by rw [← r.length]; exact F.len _ _ _ _ h
  have b := hb s us I.kIn (by rw [List.append_nil]; exact hl)
  rw [List.append_nil] at b
  refine wpAny_call (codeAny_mono (F.run X.A X.stack s H ⟨us, []⟩ us vs Q C8.E0 hr I.env0 b r h) fun r s' hq => ?_)
  cases r with
  | error e => exact (show False from hq).elim
  | ok fl =>
    cases fl with
    | ret u => exact I.after hq
    | next => exact False.elim hq
    | brk => exact False.elim hq
    | cont => exact False.elim hq
theorem pe_callQ (F : FnQ X.prog X.w X.K X.mg X.base k f fd ps sp) (hr : L2H.RoomH k X.A) (hg : Gl X x) (hm : X.mg x = some (.ref f)) (hk : PySem.W.keepIn X.K (.ref f) = true) (hb : Binds X.K fd ps [])
    (ha : PA X (e :: es) t) (hdb : (x == ("__debug__" : Str)) = false := by decide) (he : starEach (e :: es) X.env = (false, eval e X.env) :: starEach es X.env := by rfl) (hpl : (backTo pos (starEach es X.env)).any (·.1) = false := by rfl) :
    PE X (.Call (.Name x p) (e :: es) [] pos) (tCall sp [] C8.E0 t) := by
  refine ⟨fun pins s σ H Q I h => ?_⟩
  refine wpAny_Call_Name_kw (ld_glob I hg hm ?_ hdb)
  refine PySem.W.callWith_K (h₀ := X.base) I.ok.mod.kin hk (thn (ha.run pos pins s σ H _ I h) fun us s1 ⟨vs, H1, I1, r, q⟩ => ⟨I1.kIn, ?_⟩) he hpl
  have q : sp (vs ++ []) H1 Q C8.E0 := q
  rw [List.append_nil] at q
  exact run_fnQ F hr hb I1 r q
end
abbrev xObj (oe : Obj) : HO := .frz oe (.ext fun _ => True)
section
variable {X : Cx} {pins : List (Addr × Obj)} {σ : L2.St} {H : Hp} {s : Shared} {a : Addr} {oe : Obj} {us : Array Value}
theorem inv_held (I : Inv X pins σ H s) (ha : s.heap.get? a = some oe) (hd : oe.data = .fields us) (na : H a = none) (nL : a ≠ X.env.locals) (n0 : ∀ o, X.s_0.heap.get? a = some o → a ∈ X.ex) (np : ∀ p ∈ X.pn ++ pins, p.1 ≠ a) :
    Inv X pins σ (upd H a (xObj oe)) s := by
  refine ⟨I.ok, I.os, I.bare, ⟨I.base.keep, I.base.slot, fun b o e n hx => ?_, I.base.there, fun b xs e => ?_, fun b o u e => ?_, fun b ps e => ?_⟩, I.loc, I.cell, ?_, fun y c e => ?_, fun p hp => ?_, fun b u e => ?_, I.len⟩
  · by_cases c : b = a
    · subst c
      exact absurd (n0 o e) hx
    · rw [upd_ne c]
      exact I.base.free b o e n hx
  · by_cases c : b = a
    · subst c
      have z := I.base.tups b xs e
      rw [na] at z
      cases z
    · rw [upd_ne c]; exact I.base.tups b xs e
  · by_cases c : b = a
    · subst c
      have z := I.base.frzs b o u e
      rw [na] at z
      cases z
    · rw [upd_ne c]; exact I.base.frzs b o u e
  · by_cases c : b = a
    · subst c
      obtain ⟨more, z⟩ := I.base.tbls b ps e
      rw [na] at z
      cases z
    · rw [upd_ne c]; exact I.base.tbls b ps e
  · rw [upd_ne (Ne.symm nL)]; exact I.free
  · have nc : c ≠ a := fun z => by
      obtain ⟨v, o, ho, hv⟩ := I.cell y c e
      rw [z, ha] at ho
      cases ho
      rw [hd] at hv
      cases hv
    rw [upd_ne nc]
    exact I.freeC y c e
  · obtain ⟨g1, g2, g3, g4, g5⟩ := I.pin p hp
    exact ⟨g1, by rw [upd_ne (np p hp)]; exact g2, g3, g4, g5⟩
  · by_cases c : b = a
    · subst c
      rw [upd_same] at e
      cases e
      exact ⟨ha, trivial, ⟨_, ha⟩, fun _ _ _ _ => trivial⟩
    · rw [upd_ne c] at e
      refine (I.hok b u e).stay (fun _ _ _ z => z) (fun d z => ?_) fun d xs z => ?_
      · rw [upd_ne (fun y => by rw [y, na] at z; cases z)]; exact z
      · rw [upd_ne (fun y => by rw [y, na] at z; cases z)]; exact z
theorem inv_suite0 (I : Inv X pins σ H s) : Inv (X.suite a (X.pn ++ pins)) [] σ H s :=
  ⟨I.ok.suite _ _, I.os, I.bare, I.base, I.loc, I.cell, I.free, I.freeC, fun p hp => I.pin p (by rw [List.append_nil] at hp; exact hp), I.hok, I.len⟩
theorem inv_unsuite0 {pn' : List (Addr × Obj)} (I : Inv (X.suite a (X.pn ++ pins)) pn' σ H s) (ok : X.Ok) : Inv X pins σ H s :=
  ⟨ok, I.os, I.bare, I.base, I.loc, I.cell, I.free, I.freeC, fun p hp => I.pin p (List.mem_append_left _ hp), I.hok, I.len⟩
end
/-- isinstance(e, c), e an exception -/
def rIsX (K : PySem.W.Frag) : List V → Hp → VK → Prop := fun xs H Q => ∃ (a D : Addr) (oe : Obj) (us : Array Value) (c : V) (cv : Value) (b : Bool), xs = [.ref a, c] ∧ H a = some (xObj oe) ∧ oe.cls = .ref D ∧ oe.data = .fields us ∧ (oe.dict = none ∨ ∃ dd gs, oe.dict = some dd ∧ H dd = some (.xd gs)) ∧
  ExcC K D ∧ (∀ u, RelV c u → u = cv) ∧ PySem.W.kitOne K (.ref D) cv = some b ∧ Q (.bl b) H
theorem call_isX {X : Cx} {K : PySem.W.Frag} (hK : X.K = K) : CallR X (.builtin "isinstance") (rIsX K) := by
  subst hK
  intro pins s σ H xs us Q I r h
  obtain ⟨a, D, oe, vs, c, cv, b, rfl, ha, hcl, hv, hdi, C, hcv, e, q⟩ := h
  match us, r with
  | [u0, u1], .cons rx (.cons rt .nil) =>
      cases rx
      have ec := hcv _ rt
      subst ec
      obtain ⟨hget, _⟩ : s.heap.get? a = some oe ∧ True := ⟨(I.hok a _ ha).1, trivial⟩
      have fin : ∀ {od : Option Obj}, PySem.W.InstAt s.heap a oe D od → PySem.W.KitX X.K (.ref a) (.ref D) (fun h => PySem.W.InstAt h a oe D od) → wpAny (model X.prog X.w) X.A (call (.builtin "isinstance") [.ref a, u1]) (EP X pins σ Q) X.xe s := fun J kx =>
        PySem.W.kia_one kx I.kIn J e (fun z => nomatch z) fun tk => ⟨.bl b, H, I.kept (t' := tk) fun _ _ z => z, rfl, q⟩
      rcases hdi with hn | ⟨dd, gs, hdd, hx⟩
      · have J : PySem.W.InstAt s.heap a oe D none := by
          obtain ⟨oc, od, oda, osl⟩ := oe
          dsimp only at hcl hv hn
          subst hcl hv hn
          exact ⟨hget, rfl, rfl, trivial⟩
        exact fin J (PySem.W.handS_kitx_exc C.hg C.hk C.hs C.hd C.ha C.hn C.ht C.hm)
      · have hx : ObjOk X.prog X.w H s.heap dd (.xd gs) := I.hok dd _ hx
        obtain ⟨mA, ⟨od, es, ep, ho, hr⟩, _⟩ := hx
        have J : PySem.W.InstAt s.heap a oe D (some od) := ⟨hget, hcl, by unfold PySem.W.notCls; rw [hv] <;> rfl, by rw [hdd]; exact ho⟩
        have hcl2 : (PySem.W.clsIn X.K D).isSome = true := by
          have z := C.hd
          unfold PySem.W.hasDictIn at z
          cases hc : PySem.W.clsIn X.K D with
          | none => rw [hc] at z; exact absurd z (by decide)
          | some cd => rfl
        exact fin J (PySem.W.kitx_exc hcl2 C.hg C.hk C.hs C.ha C.hn C.ht C.hm)
/-- e.f, e an exception -/
def tXfT (K : PySem.W.Frag) (f : Str) (te : TE) : TE := fun σ H Q => te σ H fun x H1 => ∃ (a C : Addr) (oe : Obj) (us : Array Value) (dd : Addr) (gs : List (Str × V)) (v : V), x = .ref a ∧ H1 a = some (xObj oe) ∧ oe.cls = .ref C ∧ oe.data = .fields us ∧ oe.dict = some dd ∧ H1 dd = some (.xd gs) ∧
  XfC K C ∧ PySem.W.findIn K (.ref C) f = some none ∧ gs.lookup f = some v ∧ Q v H1
theorem pe_xfT {X : Cx} {K : PySem.W.Frag} (hK : X.K = K) {e : Expr} {te : TE} {pos : Pos} {n : Str} (he : PE X e te) (hb : attributeBase e n X.env (eval e X.env) = eval e X.env := by rfl) : PE X (.Attribute e n pos) (tXfT K n te) := by
  subst hK
  refine ⟨fun pins s σ H Q I h => ?_⟩
  refine attr_of hb (thn (he.run pins s σ H _ I h) fun u s1 hh => ?_)
  obtain ⟨x, H1, I1, rx, a, C, oe, us, dd, gs, v, ex, ha, hcl, hv, hdd, hx, T, hno, l, q⟩ := hh
  subst ex
  obtain rfl : u = Value.ref a := rx
  have hget : s1.heap.get? a = some oe := (I1.hok a _ ha).1
  have hx : ObjOk X.prog X.w H1 s1.heap dd (.xd gs) := I1.hok dd _ hx
  obtain ⟨mA, hns, hr⟩ := hx
  obtain ⟨od, ho, hl⟩ := lookIn_ns hns
  obtain ⟨u, hu, ru⟩ := RelO.some_of (v := v) (o := mA n) (by rw [← l]; exact hr n)
  have J : PySem.W.InstAt s1.heap a oe C (some od) := ⟨hget, hcl, by unfold PySem.W.notCls; rw [hv] <;> rfl, by rw [hdd]; exact ho⟩
  exact HandSPX.exc_get I1.kIn J T.ga T.gg T.exC (PySem.W.findObj_own T.hdC hno rfl (by rw [hl, hu])) (handed_of ru) ⟨v, H1, I1.tok _, ru, q⟩
def rIsXD (K : PySem.W.Frag) : DC := fun ds M P => ∃ (a C : Addr) (fs : List (Str × D)) (c : D) (cv : Value) (b : Bool), ds = [.ptr a, c] ∧ M a = some (.xob C fs) ∧ ExcC K C ∧ ((∃ A, c = .ptr A ∧ cv = .ref A) ∨ ∃ n, c = .ty n ∧ cv = .type n) ∧ PySem.W.kitOne K (.ref C) cv = some b ∧ P (.bl b) M
instance cb_isX {K : PySem.W.Frag} : CbD (rIsX K) (rIsXD K) := ⟨fun S M H vs ds P Q w hv h k => by
  obtain ⟨a, C, fs, c, cv, b, rfl, ha, E, hc, hk, p⟩ := h
  match vs, hv with
  | [v, u], .cons h0 (.cons h1 .nil) =>
    cases h0
    obtain ⟨_, oe, us, g1, g2, g3, g4⟩ := w.mem a _ ha
    refine ⟨a, C, oe, us, u, cv, b, rfl, g1, g2, g3, g4.imp (fun z => z.1) (fun ⟨dd, gs, e1, e2, e3, _⟩ => ⟨dd, gs, e1, e3⟩), E, fun u' r => ?_, hk, k _ S M _ H p .refl w (.bl b)⟩
    rcases hc with ⟨A, rfl, rfl⟩ | ⟨n, rfl, rfl⟩
    · cases h1
      exact r
    · cases h1
      exact r⟩
def dXf (K : PySem.W.Frag) (f : Str) (t : DE) : DE := fun δ M P => t δ M fun x M1 => ∃ (a C : Addr) (fs : List (Str × D)) (y : D), x = .ptr a ∧ M1 a = some (.xob C fs) ∧ XfC K C ∧ PySem.W.findIn K (.ref C) f = some none ∧ fs.lookup f = some y ∧ P y M1
instance pu_xfT {K : PySem.W.Frag} {f : Str} {te : TE} {dt : DE} [A : PuE te dt] : PuE (tXfT K f te) (dXf K f dt) := ⟨fun S M σ δ H P Q w e h k =>
  A.run S M σ δ H _ _ w e h fun d S1 M1 v H1 p1 t1 w1 h1 => by
    obtain ⟨a, C, fs, y, rfl, ha, X, hn, hl, p⟩ := p1
    cases h1
    obtain ⟨_, oe, us, g1, g2, g3, g4⟩ := w1.mem a _ ha
    rcases g4 with ⟨_, rfl⟩ | ⟨dd, gs, e1, e2, e3, e4, e5⟩
    · cases hl
    · obtain ⟨v, hv, hd⟩ := lookup_dt e4 e5 hl
      exact ⟨a, C, oe, us, dd, gs, v, rfl, g1, g2, g3, e1, e3, X, hn, hv, k _ S1 M1 _ H1 p t1 w1 hd⟩⟩
theorem x_xf {K : PySem.W.Frag} {f : Str} {t : DE} {δ : Dl} {M : Mem} {P : QD} (h : t δ M fun x M1 => ∃ (a C : Addr) (fs : List (Str × D)) (y : D), x = .ptr a ∧ M1 a = some (.xob C fs) ∧ XfC K C ∧ PySem.W.findIn K (.ref C) f = some none ∧ fs.lookup f = some y ∧ P y M1) : dXf K f t δ M P := h
end V
namespace V
open PySem PySem.Spec PyProof.Rows L2 U StX
theorem flying_keeps {B : Heap} {l : List Env} {a : Addr} {Z : Obj → Prop} {h h' : Heap} (f : HandSPX.FlyingZ B l a Z h) (k : ∀ b o, h.get? b = some o → h'.get? b = some o) : HandSPX.FlyingZ B l a Z h' := by
  obtain ⟨f1, f2, f3, oe, vs, T, oT, ts, g1, g2, g3, g4, g5, g6, g7, g8, g9⟩ := f
  exact ⟨fun b o e => k _ _ (f1 b o e), f2, f3.of_keeps fun b o hb _ => ⟨o, k _ _ hb, rfl⟩, oe, vs, T, oT, ts, k _ _ g1, g2, g3, g4, g5, g6, k _ _ g7, g8, g9⟩
section
variable {X : Cx} {n x1 x2 x3 : Str} {c1 c2 c3 : Value} {i : Nat} {body suite : List Stmt} {b₀ : Stmt} {np1 np2 np3 tpos pos pos' : Pos} {cx : Nat} {tb : XK → TS} {ts : TS}
/-- what a clause with three classes wishes, its name in slot i -/
def wTry3as (K : PySem.W.Frag) (N i : Nat) (c1 c2 c3 : Value) (ts : TS) (D : Ends) : XK := fun cls d H => PySem.W.exmAny K cls [c1, c2, c3] = some true ∧ ∀ (σ : L2.St) (a : Addr) (oe : Obj) (us : Array Value), σ.length = N → H a = none → oe.cls = cls → oe.dict = d → oe.data = .fields us →
  ts { nx := fun σ' H' => D.nx (σ'.set i none) H', rt := D.rt, bk := fun σ' H' => D.bk (σ'.set i none) H', ct := fun σ' H' => D.ct (σ'.set i none) H' } (σ.set i (some (.ref a))) (upd H a (xObj oe))
def tTry3as (K : PySem.W.Frag) (N i : Nat) (c1 c2 c3 : Value) (tb : XK → TS) (ts : TS) : TS := fun D σ H => tb (wTry3as K N i c1 c2 c3 ts D) D σ H
theorem ps_try3as (hs : X.stack = X.env :: X.outer) (hf : X.env.frame = some X.env.locals) (hN : X.N.Nodup) (hi : X.N[i]? = some n) (hln : X.env.kindOf n = some .local) (h1 : Gl X x1 ∧ X.mg x1 = some c1) (h2 : Gl X x2 ∧ X.mg x2 = some c2) (h3 : Gl X x3 ∧ X.mg x3 = some c3)
    (hb : ∀ (E : XK) (pn : List (Addr × Obj)) (xe : Value → Shared → Prop), Takes (X.tr pn xe) (fun cls d _ H => E cls d H) → PassesOwn (model X.prog X.w) X.A X.env xe → PSs (X.tr pn xe) body (tb E))
    (hsu : ∀ (a : Addr) (pn : List (Addr × Obj)), PSs (X.suite a pn) (b₀ :: suite) ts) (d1 : (x1 == ("__debug__" : Str)) = false := by decide) (d2 : (x2 == ("__debug__" : Str)) = false := by decide) (d3 : (x3 == ("__debug__" : Str)) = false := by decide)
    (hst : ∀ env, backTo tpos (starEach [.Name x1 np1, .Name x2 np2, .Name x3 np3] env) = (false, eval (.Name x1 np1) env) :: (backTo tpos (starEach [.Name x2 np2, .Name x3 np3] env)) := by intro _; rfl) :
    PS X (.Try body [.ExceptHandler (some (.Tuple [.Name x1 np1, .Name x2 np2, .Name x3 np3] cx tpos)) (some n) (b₀ :: suite) pos'] [] [] pos) (tTry3as X.K X.N.length i c1 c2 c3 tb ts) := by
  refine ⟨fun pins s σ H D I h => ?_⟩
  have ok := I.ok
  have hloc : Loc X.env.scope n := .inl hln
  have hfr : X.A.frames = some (X.env :: X.outer) := by rw [ok.frames, hs]
  refine wpAny_Try_except ?_
  refine wpAny_mono ((hb (wTry3as X.K X.N.length i c1 c2 c3 ts D) (X.pn ++ pins) (fun e s₁ => wpAny (model X.prog X.w) X.A (noteFrame e X.env) (fun _ s₂ => wpAny (model X.prog X.w) X.A (setFlight e none) (fun _ s₃ =>
    wpAny (model X.prog X.w) X.A (handleBy e X.env [.ExceptHandler (some (.Tuple [.Name x1 np1, .Name x2 np2, .Name x3 np3] cx tpos)) (some n) (b₀ :: suite) pos']) (SP X pins D) X.xe s₃) X.xe s₂) X.xe s₁) (fun u s' xx => ?_) PassesOwn.looking).run [] s σ H D (I.toTry _) h) (fun f s1 hsp => ?_) (fun e s1 he => he)
  · obtain ⟨a, B, sI, pins', σ', H', cls, d, rfl, J', nb, up, sky, na, os, ag, hx, w⟩ := xx
    have J : Inv X pins σ' H' sI := J'.ofTry ok
    have sky' : Sky B (X.env :: X.outer) a (Zc cls d) X.env.locals s'.heap := by rw [← hs]; exact sky
    show wpAny (model X.prog X.w) X.A (noteFrame (.ref a) X.env) _ _ _
    refine Sky.land Zc.steady hfr hf sky' fun h3' fl3 up3 => ?_
    have J3 : Inv X pins σ' H' { s' with heap := h3' } := J.landed nb fl3.1 (up.trans up3) os ag
    obtain ⟨oe3, vs3, he3, hz3, hd3⟩ := fl3.there
    have notFr : ∀ {h : Heap} {o : Obj} {vs : Array Value}, h.FunFrames B (X.env :: X.outer) → h.get? a = some o → o.data = .fields vs → a ∉ frs (X.env :: X.outer) := fun {h o vs} ff e dd hm => by
      obtain ⟨_, o', e', hnf⟩ := ff.mem hm
      rw [e] at e'; cases e'
      exact hnf _ dd
    have nfr := notFr fl3.2.2.1 he3 hd3
    have nfrX : a ∉ frs X.stack := by rw [hs]; exact nfr
    have nL : a ≠ X.env.locals := fun z => nfr (List.mem_filterMap.mpr ⟨X.env, List.mem_cons_self, by rw [hf, z]⟩)
    have nF : a ∉ X.fs := fun hm => by
      obtain ⟨e, he, q⟩ := List.mem_filterMap.mp hm
      exact nfr (List.mem_filterMap.mpr ⟨e, List.mem_cons_of_mem _ he, q⟩)
    have nB : B.get? a = none := fl3.2.1
    have nI : ∀ o, sI.heap.get? a = some o → False := fun o e => by
      have z := nb a o e nfrX
      rw [nB] at z; cases z
    have n0 : ∀ o, X.s_0.heap.get? a = some o → a ∈ X.ex := fun o e => Classical.byContradiction fun hx => by
      obtain ⟨o', e'⟩ := J.base.there a o e hx
      exact nI _ e'
    have np : ∀ p ∈ X.pn ++ pins, p.1 ≠ a := fun p hp z => nI p.2 (by rw [← z]; exact (J.pin p hp).1)
    have S3 := J3.suite he3 hd3 na nL nF
    refine wpAny_handleBy_cons (codeAny_handlers_test ?_) (by intro q; cases q)
    -- the tuple of classes
    refine wpAny_Tuple_spliced ?_
    rw [hst]
    refine Calls.spliced_cons (ld_glob (X := X.suite a ((a, oe3) :: (X.pn ++ pins))) S3 h1.1 h1.2 ?_ d1)
    refine Calls.spliced_cons (ld_glob (X := X.suite a ((a, oe3) :: (X.pn ++ pins))) S3 h2.1 h2.2 ?_ d2)
    refine Calls.spliced_cons (ld_glob (X := X.suite a ((a, oe3) :: (X.pn ++ pins))) S3 h3.1 h3.2 ?_ d3)
    refine Calls.spliced_nil ⟨by rw [sizeLine_eq]; simp, ?_⟩
    have kp : ∀ b o, h3'.get? b = some o → (h3'.push { cls := .type "tuple", data := .seq [c1, c2, c3].toArray }).get? b = some o := fun b o e => Heap.get?_push_of_some _ e
    generalize hh5 : h3'.push { cls := .type "tuple", data := .seq [c1, c2, c3].toArray } = h5 at kp ⊢
    have fl5 := flying_keeps fl3 kp
    have up5 : sI.heap.UpToSlots h5 := (up.trans up3).trans (Heap.UpToSlots.of_keeps kp)
    have J5 : Inv X pins σ' H' { s' with heap := h5 } := J.landed nb fl5.1 up5 os ag
    have LT : PySem.W.Looks (model X.prog X.w) h5 (typeOf (.ref a)) cls := fun A Q E s k q => wpAny_typeOf_ref (k _ _ (kp _ _ he3)) (by rw [hz3.1]; exact q)
    have hp5 : h5.get? h3'.objs.size = some { cls := .type "tuple", data := .seq [c1, c2, c3].toArray } := by rw [← hh5]; exact Heap.get?_push_size _ rfl
    have LM := PySem.W.exm_tup3 (M := model X.prog X.w) (J5.kIn) LT hp5 hx
    refine LM.here ?_
    refine codeAny_handlers_suite_as ?_
    refine HandSPX.lands_againZ fl5 fun h4 fl4 up4 => ?_
    have J4 : Inv X pins σ' H' { s' with heap := h4 } := J.landed nb fl4.1 (up5.trans up4) os ag
    obtain ⟨oe4, vs4, he4, hz4, hd4⟩ := fl4.there
    have S4 := inv_suite0 (a := a) (inv_held J4 he4 hd4 na nL n0 np)
    refine store_ok (X := X.suite a (X.pn ++ pins)) (v := .ref a) S4 hN hi hloc rfl (fun s5 S5 => ?_) (.inr hln)
    refine wpAny_mono ((hsu a (X.pn ++ pins)).run [] s5 _ _ _ S5 (w σ' a oe4 vs4 J.len na hz4.1 hz4.2 hd4)) (fun f s6 hsp => ?_) (fun _ _ z => False.elim z)
    have end_ : ∀ {σ6 : L2.St} {H6 : Hp} {Q : Shared → Prop}, Inv (X.suite a (X.pn ++ pins)) [] σ6 H6 s6 → (∀ s7, Inv X pins (σ6.set i none) H6 s7 → Q s7) →
        wpAny (model X.prog X.w) X.A (do bindName X.env n .none; unbindBehindTheSuite X.env n pos') (fun _ s7 => Q s7) X.xe s6 := fun {σ6 H6 Q} S6 hq => gone_ok (inv_unsuite0 S6 ok) hN hi hln hq
    cases f with
    | next =>
      obtain ⟨σ6, H6, S6, q6⟩ := hsp
      exact end_ S6 fun s7 J7 => ⟨_, _, J7, q6⟩
    | brk =>
      obtain ⟨σ6, H6, S6, q6⟩ := hsp
      exact end_ S6 fun s7 J7 => ⟨_, _, J7, q6⟩
    | cont =>
      obtain ⟨σ6, H6, S6, q6⟩ := hsp
      exact end_ S6 fun s7 J7 => ⟨_, _, J7, q6⟩
    | ret u =>
      obtain ⟨v6, σ6, H6, S6, r6, q6⟩ := hsp
      exact end_ S6 fun s7 J7 => ⟨_, _, _, J7, r6, q6⟩
  · cases f with
    | next =>
      obtain ⟨σ', H', J', q⟩ := hsp
      exact wpAny_execs_nil ⟨σ', H', J'.ofTry ok, q⟩
    | brk =>
      obtain ⟨σ', H', J', q⟩ := hsp
      exact ⟨σ', H', J'.ofTry ok, q⟩
    | cont =>
      obtain ⟨σ', H', J', q⟩ := hsp
      exact ⟨σ', H', J'.ofTry ok, q⟩
    | ret u =>
      obtain ⟨v, σ', H', J', r, q⟩ := hsp
      exact ⟨v, σ', H', J'.ofTry ok, r, q⟩
end
theorem held_xob {S : Addr → Prop} {H : Hp} {a C : Addr} {fs : List (Str × D)} {oe : Obj} {us : Array Value} (na : H a = none) (e1 : oe.cls = .ref C) (e3 : oe.data = .fields us) (x : XF S H oe.dict fs) : Held (fun b => S b ∨ b = a) (upd H a (xObj oe)) a (.xob C fs) := by
  refine ⟨oe, us, upd_same, e1, e3, x.imp id fun ⟨dd, gs, h1, h2, h3, h4, h5⟩ => ?_⟩
  have nd : dd ≠ a := fun z => by rw [z, na] at h3; cases h3
  have f : ∀ b, ¬ S b → H b ≠ none → ¬ (S b ∨ b = a) := fun b n k z => z.elim n fun y => k (by rw [y]; exact na)
  exact ⟨dd, gs, h1, f dd h2 (by rw [h3]; exact fun z => nomatch z), by rw [upd_ne nd]; exact h3, h4, (DtA.set f _ h5).sm (Same.new na)⟩
end V
namespace V
open PySem PySem.Spec PyProof.Rows L2 U StX
section
variable {X : Cx}
def rCntF (K : PySem.W.Frag) : V → List V → Hp → VK → Prop := fun x xs H Q => ∃ (a : Addr) (ys : List V) (y : V), x = V.ref a ∧ xs = [y] ∧ SqL K H a ys ∧ flatV y = true ∧ ys.all flatV = true ∧ Q (.int (ys.countP (fun z => eqV z y) : Nat)) H
theorem cnt_U {x : V} : ∀ {xs : List V} {us : List Value}, Vals xs us → xs.all flatV = true → us.countP (eqU x) = xs.countP fun z => eqV z x
  | _, _, .nil, _ => rfl
  | y :: xs, u :: us, .cons r t, f => by
    rw [List.all_cons, Bool.and_eq_true] at f
    rw [List.countP_cons, List.countP_cons, cnt_U t f.2, eqU_of r f.1]
theorem mt_countF : MtR X "list.count" (rCntF X.K) := by
  intro pins s σ H x xs v us Q I rx rxs h
  obtain ⟨a, ys, y, rfl, rfl, hs, fy, fys, q⟩ := h
  cases rx
  cases rxs with
  | cons ry rt =>
    rename_i uy ut
    cases rt
    obtain ⟨its, rv, ⟨⟨cls, dd, data, sl⟩, n, ho, hc, hdn, hd⟩, hlen⟩ := I.list hs
    simp only at hc hd
    subst hc hd
    refine call_meets PySem.F.slot_list_count ⟨_, ho, rfl⟩ PySem.F.entry_list_count (PySem.F.args_list_count_2 _ _)
      (SeqAt.list_countAt a its.toArray n dd sl uy (eqU y)) ⟨ho, fun u' hu' => mem_eqAt ry fy rv fys u' (by simpa using hu'), ?_⟩
    have ec : its.toArray.toList.countP (eqU y) = ys.countP fun z => eqV z y := cnt_U rv fys
    refine ⟨.int (ys.countP (fun z => eqV z y) : Nat), H, I.tok _, ⟨s.toks, ?_⟩, q⟩
    show Value.int ((its.toArray.toList.countP (eqU y) : Nat) : Int) s.toks = Value.int ((ys.countP (fun z => eqV z y) : Nat) : Int) s.toks
    rw [ec]
end
theorem bools_V {S : Addr → Prop} {H : Hp} : ∀ {vs : List V} {bs : List Bool}, DtA S H vs (bs.map D.bl) → vs = bs.map V.bl
  | [], [], _ => rfl
  | [], _ :: _, h => by cases h
  | _ :: _, [], h => by cases h
  | v :: vs, b :: bs, h => by
    cases h with
    | cons h1 h2 =>
      cases h1
      rw [bools_V h2]
      rfl
theorem bools_flat (bs : List Bool) : (bs.map V.bl).all flatV = true := by
  induction bs with
  | nil => rfl
  | cons b bs ih => rw [List.map_cons, List.all_cons, ih]; rfl
theorem eqV_bl (a b : Bool) : eqV (.bl a) (.bl b) = (a == b) := by cases a <;> cases b <;> rfl
theorem bools_count (bs : List Bool) (c : Bool) : (bs.map V.bl).countP (fun z => eqV z (.bl c)) = bs.count c := by
  induction bs with
  | nil => rfl
  | cons b bs ih => rw [List.map_cons, List.countP_cons, List.count_cons, ih, eqV_bl]
theorem bools_first : ∀ {bs : List Bool} {c : Bool}, c ∈ bs → bs[bs.idxOf c]? = some c ∧ ∀ m b, m < bs.idxOf c → bs[m]? = some b → b ≠ c
  | [], c, h => nomatch h
  | a :: bs, c, h => by
    by_cases e : a = c
    · subst e
      rw [List.idxOf_cons_self]
      exact ⟨rfl, fun m b hm => by omega⟩
    · have hc : c ∈ bs := (List.mem_cons.mp h).resolve_left fun z => e z.symm
      obtain ⟨h1, h2⟩ := bools_first hc
      rw [List.idxOf_cons, show (a == c) = false from beq_eq_false_iff_ne.mpr e]
      refine ⟨h1, fun m b hm hb => ?_⟩
      cases m with
      | zero =>
        cases hb
        exact e
      | succ m => exact h2 m b (by simpa using hm) hb
def dCntB (a : DE) (b : DA) : DE := fun δ M P => a δ M fun x M1 => ∃ bs : List Bool, x = .lst (bs.map D.bl) ∧ b δ M1 fun ys M2 => ∃ c, ys = [.bl c] ∧ P (.int (bs.count c : Nat)) M2
instance pu_cntB {K : PySem.W.Frag} {ta : TE} {tb : TA} {da : DE} {db : DA} [A : PuE ta da] [B : PuA tb db] : PuE (tBM K "list" (rCntF K) ta tb) (dCntB da db) := ⟨fun S M σ δ H P Q w e h k =>
  A.run S M σ δ H _ _ w e h fun d S1 M1 v H1 p1 t1 w1 h1 => by
    obtain ⟨bs, rfl, p1⟩ := p1
    have h1' := h1
    cases h1 with
    | lst n ha hs =>
      rename_i a vs
      refine ⟨.inl ⟨rfl, _, SqL.of ha⟩, B.run S1 M1 σ δ H1 _ _ w1 (e.step w t1) p1 fun d2 S2 M2 v2 H2 p2 t2 w2 h2 => ?_⟩
      obtain ⟨c, rfl, p2⟩ := p2
      have h3 := dt_step w1 t2 _ h1'
      cases h3 with
      | lst n2 ha2 hs2 =>
        have ev := bools_V hs2
        subst ev
        match v2, h2 with
        | [_], .cons (.bl _) .nil => exact ⟨a, _, .bl c, rfl, rfl, SqL.of ha2, rfl, bools_flat bs, by rw [bools_count]; exact k _ S2 M2 _ H2 p2 (t1.trans t2) w2 (.int _)⟩⟩
theorem x_cntB {a : DE} {b : DA} {δ : Dl} {M : Mem} {P : QD} (h : a δ M fun x M1 => ∃ bs : List Bool, x = .lst (bs.map D.bl) ∧ b δ M1 fun ys M2 => ∃ c, ys = [.bl c] ∧ P (.int (bs.count c : Nat)) M2) : dCntB a b δ M P := h
def dIdxB (a : DE) (b : DA) : DE := fun δ M P => a δ M fun x M1 => ∃ bs : List Bool, x = .lst (bs.map D.bl) ∧ b δ M1 fun ys M2 => ∃ c, ys = [.bl c] ∧ c ∈ bs ∧ P (.int (bs.idxOf c : Nat)) M2
instance pu_idxB {K : PySem.W.Frag} {ta : TE} {tb : TA} {da : DE} {db : DA} [A : PuE ta da] [B : PuA tb db] : PuE (tBM K "list" (rIndex K) ta tb) (dIdxB da db) := ⟨fun S M σ δ H P Q w e h k =>
  A.run S M σ δ H _ _ w e h fun d S1 M1 v H1 p1 t1 w1 h1 => by
    obtain ⟨bs, rfl, p1⟩ := p1
    have h1' := h1
    cases h1 with
    | lst n ha hs =>
      rename_i a vs
      refine ⟨.inl ⟨rfl, _, SqL.of ha⟩, B.run S1 M1 σ δ H1 _ _ w1 (e.step w t1) p1 fun d2 S2 M2 v2 H2 p2 t2 w2 h2 => ?_⟩
      obtain ⟨c, rfl, hm, p2⟩ := p2
      have h3 := dt_step w1 t2 _ h1'
      cases h3 with
      | lst n2 ha2 hs2 =>
        have ev := bools_V hs2
        subst ev
        obtain ⟨g1, g2⟩ := bools_first hm
        match v2, h2 with
        | [_], .cons (.bl _) .nil => exact ⟨a, _, .bl c, bs.idxOf c, .bl c, rfl, rfl, SqL.of ha2, rfl, bools_flat bs, by rw [List.getElem?_map, g1]; rfl, by rw [eqV_bl]; exact beq_self_eq_true c, fun m z' hm2 hz => by
            rw [List.getElem?_map] at hz
            obtain ⟨b, hb, rfl⟩ := Option.map_eq_some_iff.mp hz
            rw [eqV_bl]
            exact beq_eq_false_iff_ne.mpr (g2 m b hm2 hb), k _ S2 M2 _ H2 p2 (t1.trans t2) w2 (.int _)⟩⟩
theorem x_idxB {a : DE} {b : DA} {δ : Dl} {M : Mem} {P : QD} (h : a δ M fun x M1 => ∃ bs : List Bool, x = .lst (bs.map D.bl) ∧ b δ M1 fun ys M2 => ∃ c, ys = [.bl c] ∧ c ∈ bs ∧ P (.int (bs.idxOf c : Nat)) M2) : dIdxB a b δ M P := h
/-- what is told of an error -/
def triedX (K : PySem.W.Frag) (c1 c2 c3 : Value) (sp : Sp) (Q : VK) : XK := fun cls d H => PySem.W.exmAny K cls [c1, c2, c3] = some true ∧ ∀ (a : Addr) (oe : Obj) (us : Array Value), H a = none → oe.cls = cls → oe.dict = d → oe.data = .fields us → sp [.ref a] (upd H a (xObj oe)) Q C8.E0
def toldX (Q : VK) (v : V) (H : Hp) : Prop := ∀ p, H p = none → Q (.ref p) (upd H p (.tup [.str (Str.ofString "told"), v]))
def TTtried (K : PySem.W.Frag) (c1 c2 c3 : Value) (sp : Sp) : (XK → Hp → VK → Prop) → Hp → VK → Prop := fun tl H Q => ∀ K2 : VK, (∀ v H', toldX Q v H' → K2 v H') → tl (triedX K c1 c2 c3 sp Q) H K2
theorem roomH_units {k : Nat} {A : Around} (r : L2H.RoomH k A) : A.units + 64 < cLine := by
  have := r.un
  omega
theorem roomH_mark {k : Nat} {A : Around} {h : Option Value} (r : L2H.RoomH k A) : L2H.RoomH k (A.mark h) := ⟨r.dp, r.un⟩
theorem tried_gives {X : Cx} {Ng psr : List Str} {x a q gv ev rf x1 x2 x3 : Str} {sg : Scope} {g fr : Addr} {fdr : FuncData} {cdg c1 c2 c3 : Value} {spr : Sp} {kr j cx cy : Nat} {p1 p2 p3 p4 p5 p6 p7 p8 p9 p10 p11 p12 p13 p14 p15 p16 p17 p18 : Pos}
    (hN : Ng.length = 3) (hnd : Ng.Nodup) (hN1 : Ng[1]? = some gv) (h2 : Ng[2]? = some ev) (hgv : sg.names.lookup gv = some .local) (hv : sg.names.lookup ev = some .local) (hdg : (gv == ("__debug__" : Str)) = false) (hcg : (gv == ("__classdict__" : Str)) = false) (hde : (ev == ("__debug__" : Str)) = false) (hce : (ev == ("__classdict__" : Str)) = false)
    (hg1 : sg.names.lookup x1 = some .globalImplicit) (hg2 : sg.names.lookup x2 = some .globalImplicit) (hg3 : sg.names.lookup x3 = some .globalImplicit) (hgr : sg.names.lookup rf = some .globalImplicit)
    (hm1 : X.mg x1 = some c1) (hm2 : X.mg x2 = some c2) (hm3 : X.mg x3 = some c3) (hmr : X.mg rf = some (.ref fr)) (d1 : (x1 == ("__debug__" : Str)) = false) (d2 : (x2 == ("__debug__" : Str)) = false) (d3 : (x3 == ("__debug__" : Str)) = false) (d4 : (rf == ("__debug__" : Str)) = false)
    (F : FnQ X.prog X.w X.K X.mg X.base kr fr fdr psr spr) (hkr : PySem.W.keepIn X.K (.ref fr) = true) (hbr : Binds X.K fdr psr []) (hr : L2H.RoomH (kr + 1) X.A) (h0 : ∀ f : Addr, (L2.start Ng [V.ref f])[0]? = some (some (V.ref f)))
    (hsw : ∀ env : Env, swapsWith (.Call (.Name a p1) [] [] p2) (some (.Name gv p3)) p4.line env = pure false) :
    LamX.GivesTo X Ng x sg g cdg [.Try [.Assign [.Name gv p3] (.Call (.Name a p1) [] [] p2) p4] [.ExceptHandler (some (.Tuple [.Name x1 p10, .Name x2 p11, .Name x3 p12] cx p13)) (some ev) [.Return (some (.Call (.Name rf p14) [.Name ev p15] [] p16)) p17] p5] [] [] p6, .Return (some (.Tuple [.Constant (.str (Str.ofString "told")) j p7, .Name gv p8] cy p18)) p9] a q (TTtried X.K c1 c2 c3 spr) := by
  intro f c' s H Q tl act hc h
  refine ⟨_, pss_cons (ps_try3as (i := 2) (X := (cxOf C8.CX0 X.prog X.w X.K X.mg X.base Ng x sg g cdg X.A X.stack s H C8.E0).nox)
      (tb := fun E D σ H => ∃ Ech : XK, (∀ cls d H', Ech cls d H' → E cls d H') ∧ σ[0]? = some (some (.ref f)) ∧ H c' = some (LamX.CodeO c' q) ∧ tl Ech H fun v H' => D.nx (σ.set 1 (some v)) H')
      rfl rfl hnd h2 hv ⟨hg1, hm1⟩ ⟨hg2, hm2⟩ ⟨hg3, hm3⟩ (fun E pn xe tk _ => ?_) (fun a0 pn => pss_one (ps_ret (pe_callQ (X := Cx.suite (cxOf C8.CX0 X.prog X.w X.K X.mg X.base Ng x sg g cdg X.A X.stack s H C8.E0).nox a0 pn) F (roomH_mark (L2H.RoomH.deeper hr _)) hgr hmr hkr hbr
        (pa_cons (pe_var (i := 2) h2 (.inl hv) hde hce) pa_nil) d4))) d1 d2 d3 (fun _ => rfl)) (pss_one (ps_ret (pe_tup (pa_cons pe_str (pa_cons (pe_var (i := 1) hN1 (.inl hgv) hdg hcg) pa_nil))))), ?_⟩
  · refine ⟨fun pins s' σ H' D I h' => ?_⟩
    obtain ⟨Ech, hW, h1, h2', h3⟩ := h'
    have hp := act (fun cls d _ H => E cls d H) pn xe Ech p1 p2 tk (fun cls d _ H e => hW cls d H e)
    have hq := pss_one (ps_set (i := 1) (X := (cxOf C8.CX0 X.prog X.w X.K X.mg X.base Ng x sg g cdg X.A X.stack s H C8.E0).tr pn xe) (pos := p4) (pos' := p3) hnd hN1 (.inl hgv) hp (hsw _) (.inr hgv))
    exact hq.run pins s' σ H' D I ⟨h1, h2', h3⟩
  · refine ⟨triedX X.K c1 c2 c3 spr Q, fun cls d H' hx => ?_, h0 f, hc, ?_⟩
    · obtain ⟨ha, hx⟩ := hx
      refine ⟨ha, fun σ a oe us hl na e1 e2 e3 => ?_⟩
      have hl : σ.length = 3 := by rw [hl]; exact hN
      exact ⟨_, List.getElem?_set_self (by omega), hx a oe us na e1 e2 e3⟩
    · refine h _ fun v H' hg => ?_
      have hl : (L2.start Ng [V.ref f]).length = 3 := by unfold L2.start; simp; omega
      exact ⟨v, List.getElem?_set_self (by omega), by rw [sizeLine_eq]; simp, fun p hp => hg p hp⟩
/-- over data -/
def triedQ (K : PySem.W.Frag) (c1 c2 c3 : Value) (sd : DC) (R : QD) : QX := fun C fs M => PySem.W.exmAny K (.ref C) [c1, c2, c3] = some true ∧ ∀ a, M a = none → sd [.ptr a] (mset M a (.xob C fs)) fun d M' => ∃ M0, Mle M0 M' ∧ R d M0
def dLamT (P : Addr) (q : Str) (K : PySem.W.Frag) (c1 c2 c3 : Value) (sd : DC) (dt : QX → DE) : DE := fun δ M R => M P = some (.tab q) ∧ dt (triedQ K c1 c2 c3 sd R) δ M fun d M' => R (.tup [.str (Str.ofString "told"), d]) M'
instance pu_lamT {P : Addr} {q : Str} {K : PySem.W.Frag} {c1 c2 c3 : Value} {sd : DC} {t : XK → TE} {dt : QX → DE} [A : ∀ E, PuXE E (t E) dt] : PuE (tLamP P q (TTtried K c1 c2 c3 (lift sd)) t) (dLamT P q K c1 c2 c3 sd dt) := ⟨fun S M σ δ H R Q w e h k => by
  obtain ⟨hm, h⟩ := h
  obtain ⟨ps, hP, ht, ha⟩ := (w.mem P _ hm).2
  refine ⟨⟨ps, hP, ht, fun pos cv hc => let ⟨c, a1, a2, _⟩ := ha pos cv hc; ⟨c, a1, a2⟩⟩, fun H1 l K2 hK => ?_⟩
  obtain ⟨w1, t1⟩ := lam_to w hm l
  refine (A _).run S M σ δ H1 _ (triedQ K c1 c2 c3 sd R) _ w1 (e.step w t1) h (fun d S2 M2 v H2 r t2 w2 hd => hK _ _ fun p np => ?_) (fun C fs S2 M2 d H2 r t2 w2 xf => ?_)
  · exact k _ _ _ _ _ r ((t1.trans t2).trans (.new np)) (w2.new np) (.tup (w2.ns np) upd_same ((DtA.cons (.str _) (.cons hd .nil)).sm (Same.new np)))
  · refine ⟨r.1, fun a oe us na e1 e2 e3 => ?_⟩
    subst e2
    have w3 := w2.mutable na (held_xob na e1 e3 xf)
    have t3 := (t1.trans t2).trans (Step.mutable (S := S2) (M := M2) (mo := .xob C fs) (o := xObj oe) w2 na)
    exact ⟨_, _, _, _, w3, .cons (.ptr a) .nil, r.2 a (w2.fresh na), fun d' S' M' v' H' ⟨M0, l0, r0⟩ t' w' hv => k d' S' M0 v' H' r0 ((t3.trans t').less l0) (w'.drop l0) hv⟩⟩
theorem x_lamT {P : Addr} {q : Str} {K : PySem.W.Frag} {c1 c2 c3 : Value} {sd : DC} {dt : QX → DE} {δ : Dl} {M : Mem} {R : QD} (hm : M P = some (.tab q)) (h : dt (triedQ K c1 c2 c3 sd R) δ M fun d M' => R (.tup [.str (Str.ofString "told"), d]) M') : dLamT P q K c1 c2 c3 sd dt δ M R := ⟨hm, h⟩
end V
namespace V
open PySem PySem.Spec PyProof.Rows L2 U StX
section
variable {X : Cx} {n : Nat} {f : Addr} {fd : FuncData} {ps : List Str} {C : Addr} {sp : Sp}
/-- repr(x) by an own __repr__ -/
def rReprO (C : Addr) (sp : Sp) : List V → Hp → VK → Prop := fun xs H Q => ∃ (a : Addr) (dx : Addr) (fs : List (Str × V)), xs = [.ref a] ∧ H a = some (.ins C dx fs) ∧ sp [.ref a] H (fun v H' => ∃ z : Str, v = .str z ∧ Q (.str z) H') L2.E0
theorem call_reprO (hb : Binds X.K fd ps []) (F : FnOk X.prog X.w X.K X.mg X.base L2.CX0 n f fd ps sp) (hr : Room (n + 1) X.A) (hs : PySem.W.findIn X.K (.ref C) "__repr__" = some (some (.ref f))) (hf : PySem.W.isFn X.K (.ref f) = true) : CallR X (.builtin "repr") (rReprO C sp) := by
  intro pins s σ H xs us Q I r h
  obtain ⟨a, dx, fs, rfl, ha, hsp⟩ := h
  match us, r with
  | [u], .cons ru .nil =>
    cases ru
    obtain ⟨mA, J, _⟩ := ins_get I.hok ha
    obtain ⟨od, J, _⟩ := J.look
    obtain ⟨m, hF⟩ := I.fr
    have sb : Sub X n X.A.in1 := ⟨hr.in1, rfl⟩
    refine PySem.W.repr_K hr.in1.units0 hF I.ok.mod.kin J hs hf ?_
    have e0 : Env0 X.prog X.w X.K X.mg X.base X.A.in1 X.stack s H := by
      have e := I.env0
      exact ⟨by rw [sb.fr]; exact e.frames, e.mod, e.bs, e.bsz, e.funs, e.frf, e.hok, e.bare⟩
    have hl := F.len _ _ _ _ hsp
    have r2 : Vals [V.ref a] [Value.ref a] := .cons rfl .nil
    refine wpAny_call (codeAny_mono (F.run X.A.in1 X.stack s H ⟨[.ref a], []⟩ [.ref a] [.ref a] _ L2.E0 sb.room e0 (by
      have := hb s [.ref a] I.kIn (by simpa using hl)
      simpa using this) r2 hsp) fun r s' hq => ?_)
    cases r with
    | error e => exact L2.pass0 pins σ H s e s' I hq
    | ok fl =>
      cases fl with
      | ret w =>
        obtain ⟨z, H', I', rz, k, ez, q⟩ := I.after hq
        subst ez
        obtain ⟨t, rfl⟩ := rz
        exact ⟨.str k, H', I', ⟨_, rfl⟩, q⟩
      | next => exact False.elim hq
      | brk => exact False.elim hq
      | cont => exact False.elim hq
end
def rReprO1 (C : Addr) (sp : DC) : DC := fun ds M P => ∃ d ns xs, ds = [d] ∧ isIn M d C ns xs ∧ sp [d] M fun e M' => ∃ z : Str, e = .str z ∧ P (.str z) M'
instance cb_reprO {C : Addr} {sp : DC} : CbD (rReprO C (lift sp)) (rReprO1 C sp) := ⟨fun S M H vs ds P Q w hv h k => by
  obtain ⟨d, ns, xs, rfl, hm, q⟩ := h
  match vs, hv with
  | [v], .cons h1 .nil =>
    obtain ⟨a, dx, fs', rfl, ha, _, _⟩ := in_get w h1 hm
    refine ⟨a, dx, fs', rfl, ha, S, M, [d], _, w, .cons h1 .nil, q, fun d S' M' v' H' e st w' hd => ?_⟩
    obtain ⟨z, rfl, pp⟩ := e
    cases hd
    exact ⟨z, rfl, k _ S' M' _ H' pp st w' (.str z)⟩⟩
section
variable {X : Cx} {pins : List (Addr × Obj)} {σ : L2.St} {H : Hp} {s : Shared} {n : Nat} {f : Addr} {fd : FuncData} {ps : List Str} {sp : Sp} {a C : Addr} {y : V} {v : Value} {Q : VK}
inductive Oth2 (C : Addr) (H : Hp) : V → Value → Prop
  | of {y : V} {t : Value} : Oth C H y t → Oth2 C H y t
  | int (i : Int) : Oth2 C H (.int i) (.type "int")
  | lst {b : Addr} {xs : List V} : H b = some (.lst xs) → Oth2 C H (.ref b) (.type "list")
theorem oth_look2 {tb : Value} (o : Oth2 C H y tb) (I : Inv X pins σ H s) (ry : RelV y v) : PySem.W.Looks (model X.prog X.w) s.heap (typeOf v) tb := by
  cases o with
  | of o => exact oth_look o I ry
  | int i =>
    obtain ⟨t, rfl⟩ := ry
    exact PySem.W.Looks.of_pure rfl
  | lst h =>
    cases ry
    obtain ⟨_, its, n, _, e⟩ := (show ObjOk X.prog X.w H s.heap _ (.lst _) from I.hok _ _ h)
    exact fun A Q E s' k q => wpAny_typeOf (T := "list") ⟨_, k _ _ e, rfl⟩ q
structure NoSub2 (K : PySem.W.Frag) (C : Addr) : Prop where
  no : NoSub K C
  int : PySem.W.subIn K (.type "int") (.ref C) = some false
  lst : PySem.W.subIn K (.type "list") (.ref C) = some false
theorem NoSub2.first {K : PySem.W.Frag} {tb : Value} (N : NoSub2 K C) (o : Oth2 C H y tb) : PySem.W.notFirst K C tb = true := by
  cases o with
  | of o => exact N.no.first o
  | int i => unfold PySem.W.notFirst; rw [N.int]; rfl
  | lst h => unfold PySem.W.notFirst; rw [N.lst]; rfl
def rEqOwn2 (C : Addr) (sp : Sp) : R2 := fun x y H Q => ∃ a dx fs tb, x = V.ref a ∧ H a = some (.ins C dx fs) ∧ Oth2 C H y tb ∧ sp [.ref a, y] H (fun v H' => ∃ t, v = V.bl t ∧ Q (.bl t) H') L2.E0
theorem op_eqOwn2 (hb : Binds X.K fd ps []) (F : FnOk X.prog X.w X.K X.mg X.base L2.CX0 n f fd ps sp) (hr : Room n X.A) (N : NoSub2 X.K C) (he : PySem.W.findIn X.K (.ref C) "__eq__" = some (some (.ref f))) (hf : PySem.W.isFn X.K (.ref f) = true) : OpR X (compareOp .Eq) (rEqOwn2 C sp) := by
  intro pins s σ H x y v u Q I rx ry ⟨a, dx, fs, tb, ex, ha, o, h⟩
  subst ex
  obtain rfl : v = .ref a := rx
  show wpAny (model X.prog X.w) X.A (richCompare .Eq (.ref a) u) (EP X pins σ Q) X.xe s
  obtain ⟨mA, J, _⟩ := ins_get I.hok ha
  obtain ⟨ob, J, _⟩ := J.look
  obtain ⟨m, hF⟩ := I.fr
  refine PySem.W.cmp_K (op := .Eq) hr.units0 hF I.ok.mod.kin J (oth_look2 o I ry) (N.first o) he hf (wpAny_mono (run_own2 F hb ⟨hr, rfl⟩ I ry h) (fun r s' q => ?_) fun _ _ e => e)
  obtain ⟨z, H', I', rz, t, rfl, q⟩ := q
  cases rz
  exact ⟨.bl t, H', I', rfl, q⟩
end
def othD (C : Addr) (y : D) : Prop := y = .non ∨ (∃ z, y = .str z) ∨ (∃ i, y = .int i) ∨ (∃ ys, y = .tup ys) ∨ (∃ ys, y = .lst ys) ∨ ∃ n2 x2, y = .ins C n2 x2
def rEqOwnD2 (C : Addr) (sp : DC) : DR := fun x y M P => ∃ n1 x1, x = .ins C n1 x1 ∧ othD C y ∧ sp [x, y] M fun d M' => ∃ t, d = .bl t ∧ P (.bl t) M'
instance op_eqOwnD2 {C : Addr} {sp : DC} : OpD (rEqOwn2 C (lift sp)) (rEqOwnD2 C sp) := ⟨fun S M H x y dx dy P Q w hx hy h k => by
  obtain ⟨n1, x1, rfl, hyk, h⟩ := h
  have gx := hx
  have gy := hy
  have fin : ∀ {a : Addr}, Dt S H (.ref a) (.ins C n1 x1) → lift sp [.ref a, y] H (fun v H' => ∃ t, v = V.bl t ∧ Q (.bl t) H') L2.E0 := fun {a} ha => ⟨S, M, _, _, w, .cons ha (.cons gy .nil), h, fun d S' M' v H' p t w' hv => by
    obtain ⟨b, rfl, p⟩ := p
    cases hv
    exact ⟨b, rfl, k _ S' M' _ H' p t w' (.bl _)⟩⟩
  cases hx with
  | ins _ ha _ _ =>
    rcases hyk with rfl | ⟨z, rfl⟩ | ⟨i, rfl⟩ | ⟨ys, rfl⟩ | ⟨ys, rfl⟩ | ⟨n2, x2, rfl⟩
    · cases hy
      exact ⟨_, _, _, _, rfl, ha, .of .non, fin gx⟩
    · cases hy
      exact ⟨_, _, _, _, rfl, ha, .of (.str z), fin gx⟩
    · cases hy
      exact ⟨_, _, _, _, rfl, ha, .int i, fin gx⟩
    · cases hy with
      | tup _ hb _ => exact ⟨_, _, _, _, rfl, ha, .of (.tup hb), fin gx⟩
    · cases hy with
      | lst _ hb _ => exact ⟨_, _, _, _, rfl, ha, .lst hb, fin gx⟩
    · cases hy with
      | ins _ hb _ _ => exact ⟨_, _, _, _, rfl, ha, .of (.ins hb), fin gx⟩⟩
/-- a state between two parts of a suite -/
theorem x_mid {s u : DS} {nx bk ct : QS} {rt : QD} {δ : Dl} {M : Mem} (F : QS) (h : ∀ nx' : QS, (∀ δ' M', F δ' M' → nx' δ' M') → s nx' rt bk ct δ M) (h2 : ∀ δ' M', F δ' M' → u nx rt bk ct δ' M') : sSeq s u nx rt bk ct δ M := h _ h2
end V
namespace V
/-- own classes, then the rest tl -/
def refsB (tl : List PySem.Value) : List PySem.Value → Bool
  | .ref _ :: r => refsB tl r
  | l => l == tl
end V
namespace V.XA
open PySem PySem.Spec PySem.W PySem.Calls PyProof.Rows PySem.HandSPX Builtin Builtin.ObjectAttr
section
variable {tl : List Value}
theorem refsB_cases (l : List Value) (e : refsB tl l = true) : (∃ c r, l = .ref c :: r ∧ refsB tl r = true) ∨ l = tl := by
  cases l with
  | nil => exact .inr (beq_iff_eq.mp e)
  | cons a r => cases a <;> first | exact .inl ⟨_, _, rfl, e⟩ | exact .inr (beq_iff_eq.mp e)
theorem refsB_ind {p : List Value → Prop} (h0 : p tl) (h1 : ∀ c r, p r → p (.ref c :: r)) : ∀ l : List Value, refsB tl l = true → p l
  | [], e => by
    rcases refsB_cases [] e with ⟨c, r, q, _⟩ | q
    · cases q
    · rw [q]; exact h0
  | a :: r, e => by
    rcases refsB_cases (a :: r) e with ⟨c, r', q, h⟩ | q
    · obtain ⟨rfl, rfl⟩ := List.cons.inj q
      exact h1 c r (refsB_ind h0 h1 r h)
    · rw [q]; exact h0
theorem refsB_pass (self : Value) (hp : refuseLoop self "__setattr__" tl = pure ()) : ∀ l : List Value, refsB tl l = true → refuseLoop self "__setattr__" l = pure () :=
  refsB_ind hp fun c r h => by rw [refuseLoop_ref]; exact h
theorem refsB_has (X : String) : ∀ l : List Value, refsB tl l = true → l.contains (.type X) = tl.contains (.type X) :=
  refsB_ind rfl fun c r h => by rw [List.contains_cons, h]; rfl
end
section
variable {tl : List Value} {prog : Program} {w : World} {A : Around} {R : Result → Shared → Prop} {hp : Heap} {g : Array GenState} {d : Drawn} {t : Nat} {os : OsState}
theorem osa_first {K : W.Frag} {name : Str} {tk : Tok} {v : Value} {x C : Addr} {fv : Array Value} {cd : ClassData} (hps : ∀ self, refuseLoop self "__setattr__" tl = pure ()) (hto : tl.contains (.type "object") = true)
    (X : K.In hp) (hx : hp.get? x = some { cls := .ref C, data := .fields fv }) (hcd : W.clsIn K C = some cd) (hm : refsB tl cd.mro = true) (hh : cd.hasDict = true) (ha : W.findIn K (.ref C) name = some none)
    (hq : ∀ h' tk' dx, (∀ b o, b ≠ x → hp.get? b = some o → h'.get? b = some o) → hp.objs.size ≤ dx → dx ≠ x → h'.get? x = some { cls := .ref C, dict := some dx, data := .fields fv } →
      h'.Ns1 dx (fun y => if y = name then some v else none) → R (.ok (.ret .none)) ⟨h', g, d, tk', os⟩) :
    codeAny (model prog w) A (.call (.builtin "object.__setattr__") ⟨[.ref x, .str name tk, v], []⟩) R ⟨hp, g, d, t, os⟩ := by
  have I : W.InstAt hp x { cls := .ref C, data := .fields fv } C none := ⟨hx, rfl, rfl, trivial⟩
  have SF := F.store_object
  have hob : cd.mro.contains (.type "object") = true := (refsB_has "object" _ hm).trans hto
  have ne : cd.mro.isEmpty = false := by
    cases e : cd.mro with
    | nil => rw [e] at hob; cases hob
    | cons _ _ => rfl
  have hxs : x ≠ hp.objs.size := Nat.ne_of_lt (Heap.lt_size hx)
  have sub : W.Looks (model prog w) hp (isInstance (.ref x) (.type "object")) true := I.type.andThen (W.looks_mroIn X (by unfold W.mroIn; rw [hcd, Option.bind_some, if_neg (by rw [ne]; decide), hob]))
  refine codeAny_call_builtin SF.slot.plain SF.entry (@W.check_slot (model prog w) _ _ ⟨hp, g, d, t, os⟩ "object.__setattr__" "object" "__setattr__" (.ref x) [.str name tk, v] [] _ SF.kind SF.split sub (SF.args (.ref x) (.str name tk) v) ?_)
  have hmr : W.Looks (model prog w) hp (mroOf (.ref C)) cd.mro := (W.looks_clsIn X hcd).andThen .now
  have hcls : W.Looks (model prog w) hp (classData C) cd := W.looks_clsIn X hcd
  rw [W.osa_eq, refuse_eq]
  refine wpAny_bind (wpAny_bind (I.type.at (wpAny_bind (hmr.at ?_))))
  rw [refsB_pass _ (hps _) _ hm]
  refine wpAny_pure (wpAny_bind (I.type.at (wpAny_bind ((W.looks_findIn X ha).at (wpAny_bind ((W.Looks.now : W.Looks (model prog w) hp (storeTaker? none) none).at ?_))))))
  show wpAny _ _ (storeInOwnDict (.ref x) (.ref C) (.str name tk) name v false) _ _ _
  obtain ⟨nm, bs, mro, ns, qn, hd, sn, sb, ab, col, del⟩ := cd
  dsimp only at hh
  subst hh
  unfold storeInOwnDict ownDictForStores
  repeat (first | with_reducible refine store_in_new ?_ ?_ | with_reducible refine wpAny_loadPart_at hx ?_ | with_reducible refine hcls.at ?_ | wp_step)
  · exact ⟨_, #[], _, (Heap.get?_update_ne _ _ _ _ hxs.symm).trans (Heap.get?_push_at rfl rfl), rfl, fun e he => absurd he (by simp), fun _ => rfl⟩
  · intro h' tk' hn' hs
    have hx1 : (hp.push { cls := .type "dict", data := .dict #[] }).get? x = some { cls := .ref C, data := .fields fv } := Heap.get?_push_of_some _ hx
    exact hq h' tk' hp.objs.size (fun b o hb ho => (hs.2 b (Nat.ne_of_lt (Heap.lt_size ho))).trans ((Heap.get?_update_ne _ _ _ _ hb).trans (Heap.get?_push_of_some _ ho))) (Nat.le_refl _) hxs.symm ((hs.2 x hxs).trans (Heap.get?_update_self _ hx1 rfl)) hn'
end
end V.XA
namespace V
open PySem PySem.Spec PyProof.Rows L2 U StX
/-- what the written part says of an own exception class with a dict, over the base B -/
structure OexG (K : PySem.W.Frag) (C : Addr) (B newId initId : String) (tl : List Value) : Prop where
  base : ExcBaseFacts B newId initId tl
  pass : ∀ self, refuseLoop self "__setattr__" tl = pure ()
  obj : tl.contains (.type "object") = true
  cls : ∃ nm q N bs bm sn sub ab col dd k0 k1 k2 k3 k5, K.lookup C = some (excClassObj nm q C N bs bm true sn sub ab col dd k0 k1 k2 k3 k5 newId) ∧ refsB tl bm = true
  sa : PySem.W.findIn K (.ref C) "__setattr__" = some (some (.builtin "object.__setattr__"))
  exC : PySem.W.subIn K (.ref C) (.type "BaseException") = some true
  tyC : PySem.W.typeIn K (.ref C) = some (.type "type")
  kC : PySem.W.keepIn K (.ref C) = true
def tlLookup : List Value := [.type "LookupError", .type "Exception", .type "BaseException", .type "object"]
def tlArith : List Value := [.type "ArithmeticError", .type "Exception", .type "BaseException", .type "object"]
theorem pass_lookup : ∀ self, refuseLoop self "__setattr__" tlLookup = pure () := fun self => by unfold tlLookup; kernel_rfl
theorem pass_arith : ∀ self, refuseLoop self "__setattr__" tlArith = pure () := fun self => by unfold tlArith; kernel_rfl
section
variable {X : Cx} {pins : List (Addr × Obj)} {σ : L2.St} {H : Hp} {s : Shared} {a C : Addr} {f : Str} {y : V} {u : Value} {E : Value → Shared → Prop} {A : Around} {B newId initId : String} {tl : List Value}
theorem ostG_new {Q : Unit → Shared → Prop} (T : OexG X.K C B newId initId tl) (I : Inv X pins σ H s) (e : H a = some (exo a C none)) (hno : PySem.W.findIn X.K (.ref C) f = some none) (ry : RelV y u)
    (h : ∀ dx s', H dx = none → dx ≠ a → Inv X pins σ (upd (upd H dx (exd dx [(f, y)])) a (exo a C (some dx))) s' → Q () s') : wpAny (model X.prog X.w) A (setAttr (.ref a) f u) Q E s := by
  obtain ⟨nm, q, N, bs, bm, sn, sub, ab, col, dd, k0, k1, k2, k3, k5, hC, hbm⟩ := T.cls
  have hcl : PySem.W.clsIn X.K C = some { name := nm, bases := bs, mro := .ref C :: bm, ns := N, qualname := q, hasDict := true, slotNames := sn, subclasses := sub, abstract := ab, collection := col, hasDel := false } := by unfold PySem.W.clsIn; rw [hC] <;> rfl
  obtain ⟨t1, ho⟩ := exo_at I.hok e
  obtain ⟨hp, g, d, t, os⟩ := s
  refine PySem.W.set_plain I.kIn (ox := { cls := .ref C, dict := none, data := .fields #[.ref t1, .none, .none, .none, .bool false, .none] }) (od := none) ⟨ho, rfl, rfl, trivial⟩ T.sa ?_
  refine XA.osa_first T.pass T.obj I.kIn ho hcl (show refsB tl (.ref C :: bm) = true from hbm) rfl hno (fun h' tk' dx k dn dne hx hn => ?_)
  have hnd : H dx = none := I.hok.fresh dn
  have nd : ∀ {b : Addr} {o : Obj}, hp.get? b = some o → b ≠ dx := fun {b o} q => Nat.ne_of_lt (Nat.lt_of_lt_of_le (Heap.lt_size q) dn)
  have na : ∀ {b : Addr}, H b = none → b ≠ a := fun {b} n z => by
    rw [z, e] at n
    cases n
  have Un1 : Un X.fs [] H (upd (upd H dx (exd dx [(f, y)])) a (exo a C (some dx))) hp h' := {
    keep := fun b o q n _ _ => k b o (na n) q
    slot := fun b o q n _ _ => ⟨o.slots, k b o (na n) q⟩
    free := fun b o q n _ => by rw [upd_ne (na n), upd_ne (nd q)]; exact n
    there := fun b o q _ => by
      by_cases hb : b = a
      · exact ⟨_, by rw [hb]; exact hx⟩
      · exact ⟨o, k b o hb q⟩
    tups := fun b xs q => by rw [upd_ne (at_ne e q exo_tup), upd_ne (ne_of_none q hnd)]; exact q
    frzs := fun b o v q => by rw [upd_ne (at_ne e q exo_frz), upd_ne (ne_of_none q hnd)]; exact q
    tbls := fun b ps q => ⟨#[], by rw [upd_ne (at_ne e q exo_tbl), upd_ne (ne_of_none q hnd), q]; simp⟩ }
  refine h dx _ hnd dne (I.un (t' := tk') Un1 fun b o q => ?_)
  by_cases hb : b = a
  · subst hb
    rw [upd_same] at q
    cases q
    exact exo_ok hx
  · rw [upd_ne hb] at q
    by_cases hd : b = dx
    · subst hd
      rw [upd_same] at q
      cases q
      exact exd_ok hn (relO_put (fs := []) ry fun _ => trivial)
    · rw [upd_ne hd] at q
      refine (I.hok b o q).stay (fun c v hc z => k c v ?_ z) (fun c hc => ?_) fun c xs hc => ?_
      · rcases hc with rfl | hc
        · exact hb
        · exact at_ne e hc exo_own
      · rw [upd_ne (at_ne e hc exo_own), upd_ne (ne_of_none hc hnd)]; exact hc
      · rw [upd_ne (at_ne e hc exo_tup), upd_ne (ne_of_none hc hnd)]; exact hc
/-- self.f = e in the __init__ of such a class -/
def tOstG (K : PySem.W.Frag) (f : Str) (to te : TE) : TS := fun D σ H => te σ H fun y H1 => to σ H1 fun x H2 => ∃ (a C : Addr) (B newId initId : String) (tl : List Value), x = .ref a ∧ OexG K C B newId initId tl ∧ PySem.W.findIn K (.ref C) f = some none ∧
  H2 a = some (exo a C none) ∧ ∀ dx, H2 dx = none → dx ≠ a → D.nx σ (upd (upd H2 dx (exd dx [(f, y)])) a (exo a C (some dx)))
theorem ps_ostG {o e : Expr} {to te : TE} {p p' pos : Pos} (ho : PE X o to) (he : PE X e te) (hs : swapsWith e (some (.Attribute o f p')) pos.line X.env = pure false := by rfl) : PS X (.Assign [.Attribute o f p'] e pos) (tOstG X.K f to te) := by
  refine ⟨fun pins s σ H D I h => ?_⟩
  refine plainObj_wpAny_Assign_Attribute (thn (he.run pins s σ H _ I h) fun v s1 ⟨y, H1, I1, r1, q1⟩ => thn (ho.run pins s1 σ H1 _ I1 q1) fun u s2 ⟨x, H2, I2, r2, a, C, B, ni, ii, tl, ex, T, hno, ea, q⟩ => ?_) hs
  subst ex
  obtain rfl : u = Value.ref a := r2
  exact ostG_new T I2 ea hno r1 fun dx s' n ne J => ⟨σ, _, J, q dx n ne⟩
end
section
variable {X : Cx} {x f : Str} {C fI : Addr} {k : Nat} {fd : FuncData} {ps : List Str} {sp : Sp} {ds : List Value} {dvs : List V} {p pos pos' : Pos} {e : Expr} {es : List Expr} {ta : TA} {te : TE} {B newId initId : String} {tl : List Value} {E : XK}
theorem pmk_oexG {CX : CXT} (T : OexG X.K C B newId initId tl) (iC : PySem.W.findIn X.K (.ref C) "__init__" = some (some (.ref fI))) (tI : PySem.W.typeIn X.K (.ref fI) = some (.type "function"))
    (F1 : FnOk X.prog X.w X.K X.mg X.base CX k fI fd ps sp) (hr : Room (k + 1) X.A) (hb : Binds X.K fd ps ds) (hd : Vals dvs ds) (hx : Passes CX X (fun _ _ _ => False)) (hg : Gl X x) (hm : X.mg x = some (.ref C)) (ha : PA X (e :: es) ta)
    (hdb : (x == ("__debug__" : Str)) = false := by decide) (he : starEach (e :: es) X.env = (false, eval e X.env) :: starEach es X.env := by rfl) (hpl : (backTo pos (starEach es X.env)).any (·.1) = false := by rfl) :
    PMk X (.Call (.Name x p) (e :: es) [] pos) (tMkO C sp dvs ta) := by
  intro pins s σ H Q I h
  obtain ⟨nm, q, N, bs, bm, sn, sub, ab, col, dd, k0, k1, k2, k3, k5, hC, hbm⟩ := T.cls
  refine wpAny_Call_Name_kw (ld_glob I hg hm ?_ hdb)
  refine PySem.W.callWith_K (h₀ := X.base) I.ok.mod.kin T.kC (thn (ha.run pos pins s σ H _ I h) fun us s1 ⟨vs, H1, I1, r1, hz, q1⟩ => ⟨I1.kIn, ?_⟩) he hpl
  show wpAny _ _ (call (.ref C) us) _ _ _
  obtain ⟨hp, g, dr, tk, os⟩ := s1
  have hsz : hp.objs.size ≤ hp.objs.size + 1 := Nat.le_succ _
  have hq := q1 (hp.objs.size + 1) (I1.hok.fresh hsz)
  have kk : ∀ b o, hp.get? b = some o → ((hp.push (PySem.W.kdv_tup us)).push (PySem.HandSPX.excO C hp.objs.size)).get? b = some o := fun b o e => Heap.get?_push_of_some _ (Heap.get?_push_of_some _ e)
  have hget : ((hp.push (PySem.W.kdv_tup us)).push (PySem.HandSPX.excO C hp.objs.size)).get? (hp.objs.size + 1) = some (PySem.HandSPX.excO C hp.objs.size) := by heap_get
  have I2 := I1.laid (t' := tk) (a := hp.objs.size + 1) (o := exo (hp.objs.size + 1) C none) (h' := (hp.push (PySem.W.kdv_tup us)).push (PySem.HandSPX.excO C hp.objs.size)) kk hsz (exo_ok hget)
  have r2 : Vals (V.ref (hp.objs.size + 1) :: (vs ++ dvs)) (Value.ref (hp.objs.size + 1) :: (us ++ ds)) := .cons rfl (r1.append hd)
  have hl : (Value.ref (hp.objs.size + 1) :: us ++ ds).length = ps.length := by
    have e := r2.length
    rw [F1.len _ _ _ _ hq] at e
    exact e.symm
  have hus : us.length ≤ sizeLine := by
    rw [← Paired.length r1, sizeLine_eq]
    omega
  refine wpAny_call (PySem.HandSPX.call_own T.base (fun Y => XA.refsB_has Y bm hbm) (I1.kIn _ _ hC) (PySem.W.looks_findIn I1.kIn iC) (fun self => PySem.W.bind_fn I1.kIn self tI) hus
    (codeAny_mono (F1.run _ X.stack _ _ ⟨Value.ref (hp.objs.size + 1) :: us, []⟩ (Value.ref (hp.objs.size + 1) :: (us ++ ds)) _ _ (fun _ _ _ => False) (hr.make C us []) (I2.env0.make C us []) (hb _ (Value.ref (hp.objs.size + 1) :: us) I2.kIn hl) r2 hq) fun r s' hq' => ?_))
  cases r with
  | error er => exact hx pins σ _ _ er s' I2 hq'
  | ok fl =>
    cases fl with
    | ret u =>
      obtain ⟨v, H2, os2, bare2, un2, hok2, rv, ev, d, fs, ea, ed, hd1, q2⟩ := hq'
      subst ev
      obtain ⟨h2, g2, d2, t2, os'⟩ := s'
      exact ⟨rv, mk_end (raises_own T.exC T.tyC) I1 hsz kk un2 hok2 os2 bare2 ea ed hd1 q2⟩
    | next => exact False.elim hq'
    | brk => exact False.elim hq'
    | cont => exact False.elim hq'
theorem ps_raiseG (T : OexG X.K C B newId initId tl) (iC : PySem.W.findIn X.K (.ref C) "__init__" = some (some (.ref fI))) (tI : PySem.W.typeIn X.K (.ref fI) = some (.type "function"))
    (F : FnOk X.prog X.w X.K X.mg X.base L2.CX0 k fI fd ps (spExI C f)) (hr : Room (k + 1) X.A) (hb : Binds X.K fd ps []) (hg : Gl X x) (hm : X.mg x = some (.ref C)) (hc : X.calm = true) (tk : Takes X fun cls d _ H => E cls d H) (he : PE X e te)
    (hdb : (x == ("__debug__" : Str)) = false := by decide) (hs : starEach (e :: []) X.env = (false, eval e X.env) :: starEach [] X.env := by rfl) (hpl : (backTo pos (starEach [] X.env)).any (·.1) = false := by rfl) :
    PS X (.Raise (some (.Call (.Name x p) [e] [] pos)) none pos') (tRaiseX E C f te) :=
  ps_raise hc tk (pmk_oexG (dvs := []) (ds := []) T iC tI F hr hb .nil (fun _ _ _ _ _ _ _ h => h.elim) hg hm (pa_cons he pa_nil hs) (p := p) (pos := pos) hdb hs hpl)
/-- X(), X an own exception class without own __init__ -/
theorem pmk_own0 {bmB : List Value} {BB nI iI : String} (F : ExcBaseFacts BB nI iI bmB) (q : PySem.W.excIn X.K C bmB nI = true) (gC : X.mg x = some (.ref C)) (kC : PySem.W.keepIn X.K (.ref C) = true) (r : Raises X (.ref C)) (hg : Gl X x)
    (hdb : (x == ("__debug__" : Str)) = false := by decide) : PMk X (.Call (.Name x p) [] [] pos) (fun _ H Q => Q (.ref C) none H) := by
  intro pins s σ H Q I h
  refine wpAny_Call_Name_kw (ld_glob I hg gC ?_ hdb)
  refine PySem.W.callWith_K0 (first := []) I.kIn kC ?_
  show wpAny _ _ (call (.ref C) []) _ _ _
  obtain ⟨bm, N, nm, qn, bs, hdct, sn, sub, ab, col, dd, k0, k1, k2, k3, k5, mN, hC, hN, hni, T⟩ := exc_obj I.kIn q
  exact wpAny_call_exc_subT F T hC hN hni (fun h' e hm => mk_of I hm r h (I.hok.gone hm.new)) (by simp)
def tRaise0 (E : XK) (C : Addr) : TS := fun _ _ H => E (.ref C) none H
theorem ps_raise0 {bmB : List Value} {BB nI iI : String} (F : ExcBaseFacts BB nI iI bmB) (q : PySem.W.excIn X.K C bmB nI = true) (gC : X.mg x = some (.ref C)) (kC : PySem.W.keepIn X.K (.ref C) = true) (e1 : PySem.W.subIn X.K (.ref C) (.type "BaseException") = some true) (e2 : PySem.W.typeIn X.K (.ref C) = some (.type "type")) (hg : Gl X x) (hc : X.calm = true) (tk : Takes X fun cls d _ H => E cls d H)
    (hdb : (x == ("__debug__" : Str)) = false := by decide) : PS X (.Raise (some (.Call (.Name x p) [] [] pos)) none pos') (tRaise0 E C) :=
  ps_raise hc tk (pmk_own0 F q gC kC (raises_own e1 e2) hg hdb)
end
def sRaise0 (C : Addr) (q : QX) : DS := fun _ _ _ _ _ M => q C [] M
instance pux_raise0 {E : XK} {C : Addr} : PuXS E (tRaise0 E C) (fun q => sRaise0 C q) := ⟨fun S M σ δ H nx rt bk ct D q w e h l x => x C [] S M none H h .refl w (.inl ⟨rfl, rfl⟩)⟩
end V
namespace V
open PySem PySem.Spec PyProof.Rows L2 U StX
def dMethX (C : Addr) (m : Str) (sp : DCX) (q : QX) (a : DE) (b : DA) : DE := fun δ M P => a δ M fun x M1 => (∃ ns xs, isIn M1 x C ns xs ∧ m ∉ ns) ∧ b δ M1 fun ds M2 => sp (x :: ds) M2 P q
instance pux_meth {E : XK} {C : Addr} {m : Str} {sp : DCX} {ta : TE} {t : TA} {da : DE} {dt : DA} [A : PuE ta da] [B : PuA t dt] : PuXE E (tMeth C m (liftX sp) [] E ta t) (fun q => dMethX C m sp q da dt) := ⟨fun S M σ δ H P q Q w e h k x =>
  A.run S M σ δ H _ _ w e h fun d S1 M1 v H1 p1 t1 w1 h1 => by
    obtain ⟨⟨ns, xs, hi, hm⟩, p1⟩ := p1
    obtain ⟨a, dx, fs, rfl, ha, hn, hs⟩ := in_get w1 h1 hi
    refine ⟨a, dx, fs, rfl, ha, lookup_none (by rw [hn]; exact hm), B.run S1 M1 σ δ H1 _ _ w1 (e.step w t1) p1 fun ds S2 M2 vs H2 p2 t2 w2 h2 => ?_⟩
    rw [List.append_nil]
    exact ⟨S2, M2, d :: ds, P, q, w2, .cons (dt_step w1 t2 _ h1) h2, p2, k.go (t1.trans t2), x.go (t1.trans t2)⟩⟩
theorem x_methX {C : Addr} {m : Str} {sp : DCX} {q : QX} {a : DE} {b : DA} {δ : Dl} {M : Mem} {P : QD} (h : a δ M fun x M1 => (∃ ns xs, isIn M1 x C ns xs ∧ m ∉ ns) ∧ b δ M1 fun ds M2 => sp (x :: ds) M2 P q) : dMethX C m sp q a b δ M P := h
end V
namespace V.BO
open PySem PySem.Spec PySem.W PySem.Calls PyProof.Rows
section
variable {prog : Program} {w : World}
theorem bool_new_any (x : Value) : MeetsIn prog w (Builtin.«bool.__new__» ⟨[.type "bool", x], []⟩) (fun A R s => wpAny (model prog w) A.in1 (truthy x) (fun b s' => R (.ok (.ret (.bool b))) s') (fun e s' => R (.error e) s') s) := by
  intro A R s hs
  have f1 := F.conv_sub_bool
  obtain ⟨hp, g, d, tk, os⟩ := s
  unfold Builtin.«bool.__new__»
  repeat (any_goals (first | assumption | (refine wpAny_bind (wpAny_mono hs (fun b s' hb => ?_) fun _ _ e => e)) | wp_step))
variable {K : Frag} {A : Around} {E : Value → Shared → Prop} {s : Shared} {h₀ : Heap} {L x C f : Addr} {ox : Obj} {od : Option Obj} {m : Str → Option Value}
/-- the truth of an instance with a __len__ of its own -/
theorem truthy_len {Q : Bool → Shared → Prop} (F : Fr h₀ L s.heap m) (X₀ : K.In h₀) (I : InstAt s.heap x ox C od) (hb : findIn K (.ref C) "__bool__" = some none) (hl : findIn K (.ref C) "__len__" = some (some (.ref f))) (hf : isFn K (.ref f) = true)
    (h : wpAny (model prog w) A.in1 (call (.ref f) [.ref x]) (PySem.W.LenBack fun v s' => ∃ n t, v = .int n t ∧ Q (n != 0) s') E s) : wpAny (model prog w) A (truthy (.ref x)) Q E s := by
  have X := X₀.keeps F.keep
  unfold truthy
  refine wpAny_bind (m := callSpecial? (.ref x) (Str.ofString "__bool__")) (wpAny_bind (wpAny_bind (I.type.here ((looks_findIn X hb).here (wpAny_pure ?_)))))
  refine wpAny_bind (wpAny_bind (I.type.here ((looks_findIn X hl).here ?_)))
  refine wpAny_bind (m := runValue _) (wpAny_runValue (codeAny_builtin entry_len ?_))
  unfold Builtin.«len»
  refine wpAny_bind (m := oneArg "len" _) (wpAny_pure ?_)
  refine wpAny_bind (m := callSpecial? (.ref x) (Str.ofString "__len__")) (special_fn X I hl (beq_iff_eq.mp hf) (wpAny_mono h (fun r s' hr => ?_) fun _ _ y => y))
  cases r <;> first | exact hr.elim | skip
  rename_i n u
  obtain ⟨⟨h0, h1⟩, k, tk, ek, hq⟩ := hr
  cases ek
  refine wpAny_bind (wpAny_holding (wpAny_pure ?_))
  refine wpAny_bind (wpAny_letGo ?_)
  show wpAny _ _ (if n < 0 then _ else _) _ _ _
  rw [if_neg (by omega)]
  show wpAny _ _ (if n ≥ 2 ^ 63 then _ else _) _ _ _
  rw [if_neg (by omega)]
  exact wpAny_bind (wpAny_mkInt (wpAny_pure (wpAny_pure hq)))
end
end V.BO
namespace V
open PySem PySem.Spec PyProof.Rows L2 U StX
section
variable {X : Cx} {n : Nat} {f : Addr} {fd : FuncData} {ps : List Str} {C : Addr} {sp : Sp}
def rBoolO (C : Addr) (sp : Sp) : List V → Hp → VK → Prop := fun xs H Q => ∃ (a : Addr) (dx : Addr) (fs : List (Str × V)), xs = [.ref a] ∧ H a = some (.ins C dx fs) ∧ sp [.ref a] H (fun v H' => ∃ m : Int, v = .int m ∧ 0 ≤ m ∧ m < 2 ^ 63 ∧ Q (.bl (m != 0)) H') L2.E0
theorem call_boolO (hb : Binds X.K fd ps []) (F : FnOk X.prog X.w X.K X.mg X.base L2.CX0 n f fd ps sp) (hr : Room (n + 4) X.A) (h0 : PySem.W.findIn X.K (.ref C) "__bool__" = some none) (hs : PySem.W.findIn X.K (.ref C) "__len__" = some (some (.ref f))) (hf : PySem.W.isFn X.K (.ref f) = true) : CallR X (.type "bool") (rBoolO C sp) := by
  intro pins s σ H xs us Q I r h
  obtain ⟨a, dx, fs, rfl, ha, hsp⟩ := h
  match us, r with
  | [u], .cons ru .nil =>
    cases ru
    obtain ⟨mA, J, _⟩ := ins_get I.hok ha
    obtain ⟨od, J, _⟩ := J.look
    obtain ⟨m, hF⟩ := I.fr
    have rm : Room n X.A.in1.in1.in1 := (hr.in1.in1.in1).mono (by omega)
    refine callType_newIn PySem.F.called_bool PySem.F.newNe_bool (PySem.F.typeCall_bool_1 _) (PySem.F.newCall_bool_1 _) (fun obj => PySem.F.args_object_init_2 obj _) PySem.F.entry_bool_new (BO.bool_new_any _) ?_
    show wpAny (model X.prog X.w) X.A.in1.in1 (truthy (.ref a)) _ _ s
    refine BO.truthy_len hF I.ok.mod.kin J h0 hs hf ?_
    have e0 : Env0 X.prog X.w X.K X.mg X.base X.A.in1.in1.in1 X.stack s H := by
      have e := I.env0
      exact ⟨e.frames, e.mod, e.bs, e.bsz, e.funs, e.frf, e.hok, e.bare⟩
    have hl := F.len _ _ _ _ hsp
    refine wpAny_call (codeAny_mono (F.run X.A.in1.in1.in1 X.stack s H ⟨[.ref a], []⟩ [.ref a] [.ref a] _ L2.E0 rm e0 (by
      have := hb s [.ref a] I.kIn (by simpa using hl)
      simpa using this) (.cons rfl .nil) hsp) fun r s' hq => ?_)
    cases r with
    | error e => exact (show False from hq).elim
    | ok fl =>
      cases fl with
      | ret w =>
        obtain ⟨z, H', I', rz, k, ez, k0, k1, q⟩ := I.after hq
        subst ez
        obtain ⟨t, rfl⟩ := rz
        exact ⟨⟨k0, k1⟩, k, _, rfl, rfl, .bl (k != 0), H', I'.tok _, rfl, q⟩
      | next => exact False.elim hq
      | brk => exact False.elim hq
      | cont => exact False.elim hq
end
def rBoolO1 (C : Addr) (sp : DC) : DC := fun ds M P => ∃ d ns xs, ds = [d] ∧ isIn M d C ns xs ∧ sp [d] M fun e M' => ∃ m : Int, e = .int m ∧ 0 ≤ m ∧ m < 2 ^ 63 ∧ P (.bl (m != 0)) M'
instance cb_boolO {C : Addr} {sp : DC} : CbD (rBoolO C (lift sp)) (rBoolO1 C sp) := ⟨fun S M H vs ds P Q w hv h k => by
  obtain ⟨d, ns, xs, rfl, hm, q⟩ := h
  match vs, hv with
  | [v], .cons h1 .nil =>
    obtain ⟨a, dx, fs', rfl, ha, _, _⟩ := in_get w h1 hm
    refine ⟨a, dx, fs', rfl, ha, S, M, [d], _, w, .cons h1 .nil, q, fun d S' M' v' H' e st w' hd => ?_⟩
    obtain ⟨m, rfl, k0, k1, pp⟩ := e
    cases hd
    exact ⟨m, rfl, k0, k1, k _ S' M' _ H' pp st w' (.bl _)⟩⟩
end V
namespace V
open PySem PySem.Spec PyProof.Rows L2 U StX
def IsR (K : PySem.W.Frag) (d : D) (p : PyData) : Prop := ∀ (S : Addr → Prop) (H : Hp) (v : V), Dt S H v d → Dq K H v p
def IsRs (K : PySem.W.Frag) (ds : List D) (ps : List PyData) : Prop := ∀ (S : Addr → Prop) (H : Hp) (vs : List V), DtA S H vs ds → DqAll K H vs ps
structure OkR (K : PySem.W.Frag) (W k : Nat) (d : D) (p : PyData) : Prop where
  is : IsR K d p
  ok : PyQ W k p
structure OkRs (K : PySem.W.Frag) (W k : Nat) (ds : List D) (ps : List PyData) : Prop where
  is : IsRs K ds ps
  ok : PysQ W k ps
section
variable {K : PySem.W.Frag} {W W' k k' : Nat} {d : D} {p : PyData} {ds : List D} {ps : List PyData}
theorem OkR.of (q : IsQ d p) (h : PyQ W k p) : OkR K W k d p := ⟨fun _ _ _ hd => isQ_dq q hd, h⟩
theorem okQ.r (h : okQ W k d) : ∃ p, OkR K W k d p := let ⟨p, q, e⟩ := h; ⟨p, .of q e⟩
theorem OkR.mono (h : OkR K W k d p) (hw : W ≤ W') (hk : k ≤ k') : OkR K W' k' d p := ⟨h.is, h.ok.lv, h.ok.sh, Nat.le_trans h.ok.dep hk, Nat.le_trans h.ok.wt hw⟩
theorem OkRs.nil (W k : Nat) : OkRs K W k [] [] := ⟨fun _ _ _ h => by cases h; exact .nil, rfl, rfl, Nat.zero_le _, Nat.zero_le _⟩
theorem OkRs.cons : OkR K W k d p → OkRs K W' k ds ps → OkRs K (W + 1 + W') k (d :: ds) (p :: ps) := fun ⟨e, a⟩ ⟨e2, b⟩ => by
  obtain ⟨a1, a2, a3, a4⟩ := a
  obtain ⟨b1, b2, b3, b4⟩ := b
  refine ⟨fun S H vs h => ?_, ?_, ?_, ?_, ?_⟩
  · cases h with
    | cons h1 h2 => exact .cons (e _ _ _ h1) (e2 _ _ _ h2)
  · rw [PyData.leavesShortAll, a1, b1]; rfl
  · rw [PyData.showableAll, a2, b2]; rfl
  · rw [PyData.depthAll]; omega
  · rw [PyData.weightAll]; omega
theorem OkRs.list (h : OkRs K W k ds ps) : OkR K W (k + 1) (.lst ds) (.list ps) := ⟨fun S H v hd => by
  cases hd with
  | lst n ha hs => exact .lst (SqL.of ha) (h.is _ _ _ hs), by rw [PyData.leavesShort]; exact h.ok.lv, by rw [PyData.showable]; exact h.ok.sh, by rw [PyData.depth]; have := h.ok.dep; omega, by rw [PyData.weight]; exact h.ok.wt⟩
theorem OkRs.tuple (h : OkRs K W k ds ps) : OkR K W (k + 1) (.tup ds) (.tuple ps) := ⟨fun S H v hd => by
  cases hd with
  | tup n ha hs => exact .tup (SqT.of ha) (h.is _ _ _ hs), by rw [PyData.leavesShort]; exact h.ok.lv, by rw [PyData.showable]; exact h.ok.sh, by rw [PyData.depth]; have := h.ok.dep; omega, by rw [PyData.weight]; exact h.ok.wt⟩
theorem OkRs.ftup (h : OkRs K W k ds ps) : OkR K W (k + 1) (.ftp ds) (.tuple ps) := ⟨fun S H v hd => by
  cases hd with
  | ftp n ha _ hs => exact .tup (Or.inl (Or.inr ⟨_, ha⟩)) (h.is _ _ _ hs), by rw [PyData.leavesShort]; exact h.ok.lv, by rw [PyData.showable]; exact h.ok.sh, by rw [PyData.depth]; have := h.ok.dep; omega, by rw [PyData.weight]; exact h.ok.wt⟩
theorem OkR.str {z : Str} {n : Nat} (h : ∀ c ∈ cd z, c < 0x110000) (hn : (cd z).length ≤ n) : OkR K n 0 (.str z) (.str z) := by
  obtain ⟨p, e, a⟩ := okQ.str h hn
  cases e
  exact .of (.str z) a
theorem OkR.int {i : Int} {b : Nat} (h : i.natAbs < 2 ^ b) (h0 : 0 < b := by decide) (hb : b ≤ 900 := by decide) : OkR K b 0 (.int i) (.int i) := by
  obtain ⟨p, e, a⟩ := okQ.int h h0 hb
  cases e
  exact .of (.int i) a
theorem OkR.bl (b : Bool) : OkR K 0 0 (.bl b) (.bool b) := by
  obtain ⟨p, e, a⟩ := okQ.bl b
  cases e
  exact .of (.bl b) a
theorem OkR.non : OkR K 0 0 .non .none := by
  obtain ⟨p, e, a⟩ := okQ.non
  cases e
  exact .of .non a
theorem OkRs.strs {n : Nat} : ∀ {l : List Str}, (∀ z ∈ l, (∀ c ∈ cd z, c < 0x110000) ∧ (cd z).length ≤ n) → OkRs K (l.length * (n + 1)) 0 (l.map D.str) (l.map PyData.str)
  | [], _ => OkRs.nil _ _
  | z :: l, h => by
    have a := OkRs.cons (K := K) (OkR.str (h z List.mem_cons_self).1 (h z List.mem_cons_self).2) (OkRs.strs (n := n) (l := l) fun x hx => h x (List.mem_cons_of_mem _ hx))
    have q : (l.length + 1) * (n + 1) = n + 1 + l.length * (n + 1) := by rw [Nat.add_mul, Nat.one_mul, Nat.add_comm]
    rw [List.length_cons, q]
    exact a
end
def rReprR1 (K : PySem.W.Frag) : DC := fun ds M P => ∃ d p, ds = [d] ∧ IsR K d p ∧ M sysModules = some .sys ∧ PyData.showable p = true ∧ PyData.depth p ≤ 40 ∧ (PyData.shown p).length ≤ sizeLine ∧ P (.str (PyData.shown p)) M
instance (priority := high) cb_reprR {K : PySem.W.Frag} : CbD (rReprQ K) (rReprR1 K) := ⟨fun S M H vs ds P Q w hv h k => by
  obtain ⟨d, p, rfl, e, hm, h1, h3, h4, q⟩ := h
  have hsys : SysK H := (w.mem _ _ hm).2
  match vs, hv with
  | [v], .cons h0 .nil => exact ⟨v, p, rfl, e _ _ _ h0, h1, hsys, h3, h4, k _ S M _ H q .refl w (.str _)⟩⟩
/-- repr of a datum whose shown text is known -/
theorem reprR {K : PySem.W.Frag} {d : D} {p : PyData} {W k : Nat} {M : Mem} {R : QD} (o : OkR K W k d p) (hm : M sysModules = some .sys) (q : R (.str (PyData.shown p)) M) (hk : k ≤ 40 := by decide) (hW : W ≤ 16000 := by decide) : rReprR1 K [d] M R := by
  obtain ⟨e, ho⟩ := o
  have hl : (PyData.shown p).length ≤ sizeLine := by
    have h := PyData.shown_le 1000 (by decide) p ho.lv
    have h2 : (1000 + 2) * PyData.weight p ≤ 1002 * 16000 := Nat.mul_le_mul (by decide) (Nat.le_trans ho.wt hW)
    rw [sizeLine_eq]
    omega
  exact ⟨d, p, rfl, e, hm, ho.sh, Nat.le_trans ho.dep hk, hl, q⟩
end V
namespace V
open PySem PySem.Spec PyProof.Rows L2 U StX
end V
namespace V
open PySem PySem.Spec PyProof.Rows L2 U StX
end V
namespace V
open PySem PySem.Spec PyProof.Rows L2 U StX
end V
namespace G
open PySem PySem.Spec PyProof.Rows L2 U V
def top (i : Nat) : Stmt := PySem.Challenge.pw_shownshort_k48_whole_shelves_through_dee.main.body.getD i (.Pass ⟨0, 0, 0, 0⟩)
abbrev s_InvalidText___init__ : Stmt := inClass (top 7) 0
abbrev lv_InvalidText___init__ : Nat := 1
abbrev n_InvalidText___init__ : List Str := ["self", "value"]
abbrev p_InvalidText___init__ : List Str := ["self", "value"]
theorem sc_InvalidText___init__ : FnScope n_InvalidText___init__ p_InvalidText___init__ (L2.defScope s_InvalidText___init__) := ⟨rfl, rfl, rfl, by decide +kernel, rfl, by decide +kernel, by decide +kernel⟩
abbrev s_InvalidRule___init__ : Stmt := inClass (top 9) 0
abbrev p_InvalidRule___init__ : List Str := ["self", "value"]
abbrev s_InvalidWidth___init__ : Stmt := inClass (top 10) 0
abbrev p_InvalidWidth___init__ : List Str := ["self", "value"]
abbrev s_NotANamer___init__ : Stmt := inClass (top 13) 0
abbrev p_NotANamer___init__ : List Str := ["self", "value"]
abbrev s_InvalidDeeds___init__ : Stmt := inClass (top 18) 0
abbrev p_InvalidDeeds___init__ : List Str := ["self", "index"]
abbrev s_UnknownName___init__ : Stmt := inClass (top 21) 0
abbrev lv_UnknownName___init__ : Nat := 1
abbrev n_UnknownName___init__ : List Str := ["self", "value"]
abbrev p_UnknownName___init__ : List Str := ["self", "value"]
theorem sc_UnknownName___init__ : FnScope n_UnknownName___init__ p_UnknownName___init__ (L2.defScope s_UnknownName___init__) := ⟨rfl, rfl, rfl, by decide +kernel, rfl, by decide +kernel, by decide +kernel⟩
abbrev s_TooMany___init__ : Stmt := inClass (top 22) 0
abbrev lv_TooMany___init__ : Nat := 1
abbrev n_TooMany___init__ : List Str := ["self", "limit"]
abbrev p_TooMany___init__ : List Str := ["self", "limit"]
theorem sc_TooMany___init__ : FnScope n_TooMany___init__ p_TooMany___init__ (L2.defScope s_TooMany___init__) := ⟨rfl, rfl, rfl, by decide +kernel, rfl, by decide +kernel, by decide +kernel⟩
abbrev s_is_integer : Stmt := top 28
abbrev lv_is_integer : Nat := 1
abbrev n_is_integer : List Str := ["value"]
abbrev p_is_integer : List Str := ["value"]
theorem sc_is_integer : FnScope n_is_integer p_is_integer (L2.defScope s_is_integer) := ⟨rfl, rfl, rfl, by decide +kernel, rfl, by decide +kernel, by decide +kernel⟩
abbrev s_is_text : Stmt := top 29
abbrev lv_is_text : Nat := 1
abbrev n_is_text : List Str := ["value", "most", "sign"]
abbrev p_is_text : List Str := ["value", "most"]
theorem sc_is_text : FnScope n_is_text p_is_text (L2.defScope s_is_text) := ⟨rfl, rfl, rfl, by decide +kernel, rfl, by decide +kernel, by decide +kernel⟩
abbrev s_check_text : Stmt := top 30
abbrev lv_check_text : Nat := 3
abbrev n_check_text : List Str := ["value"]
abbrev p_check_text : List Str := ["value"]
theorem sc_check_text : FnScope n_check_text p_check_text (L2.defScope s_check_text) := ⟨rfl, rfl, rfl, by decide +kernel, rfl, by decide +kernel, by decide +kernel⟩
abbrev s_Namer___init__ : Stmt := inClass (top 35) 0
abbrev lv_Namer___init__ : Nat := 3
abbrev n_Namer___init__ : List Str := ["self", "rule", "width"]
abbrev p_Namer___init__ : List Str := ["self", "rule", "width"]
theorem sc_Namer___init__ : FnScope n_Namer___init__ p_Namer___init__ (L2.defScope s_Namer___init__) := ⟨rfl, rfl, rfl, by decide +kernel, rfl, by decide +kernel, by decide +kernel⟩
abbrev s_Namer_base_of : Stmt := inClass (top 35) 1
abbrev lv_Namer_base_of : Nat := 1
abbrev n_Namer_base_of : List Str := ["self", "text"]
abbrev p_Namer_base_of : List Str := ["self", "text"]
theorem sc_Namer_base_of : FnScope n_Namer_base_of p_Namer_base_of (L2.defScope s_Namer_base_of) := ⟨rfl, rfl, rfl, by decide +kernel, rfl, by decide +kernel, by decide +kernel⟩
abbrev s_Namer_numbered : Stmt := inClass (top 35) 2
abbrev lv_Namer_numbered : Nat := 1
abbrev n_Namer_numbered : List Str := ["self", "base", "number", "ending"]
abbrev p_Namer_numbered : List Str := ["self", "base", "number"]
theorem st_Namer_numbered (d0 d1 d2 : D) : startD n_Namer_numbered [d0, d1, d2] = [some d0, some d1, some d2, none] := rfl
theorem sc_Namer_numbered : FnScope n_Namer_numbered p_Namer_numbered (L2.defScope s_Namer_numbered) := ⟨rfl, rfl, rfl, by decide +kernel, rfl, by decide +kernel, by decide +kernel⟩
abbrev s_Namer_name_for : Stmt := inClass (top 35) 3
abbrev lv_Namer_name_for : Nat := 2
abbrev n_Namer_name_for : List Str := ["self", "text", "there", "base", "alike", "taken", "number", "mate", "name"]
abbrev p_Namer_name_for : List Str := ["self", "text", "there"]
theorem st_Namer_name_for (d0 d1 d2 : D) : startD n_Namer_name_for [d0, d1, d2] = [some d0, some d1, some d2, none, none, none, none, none, none] := rfl
theorem sc_Namer_name_for : FnScope n_Namer_name_for p_Namer_name_for (L2.defScope s_Namer_name_for) := ⟨rfl, rfl, rfl, by decide +kernel, rfl, by decide +kernel, by decide +kernel⟩
abbrev s_Namer___eq__ : Stmt := inClass (top 35) 4
abbrev lv_Namer___eq__ : Nat := 5
abbrev n_Namer___eq__ : List Str := ["self", "other"]
abbrev p_Namer___eq__ : List Str := ["self", "other"]
theorem st_Namer___eq__ (d0 d1 : D) : startD n_Namer___eq__ [d0, d1] = [some d0, some d1] := rfl
theorem sc_Namer___eq__ : FnScope n_Namer___eq__ p_Namer___eq__ (L2.defScope s_Namer___eq__) := ⟨rfl, rfl, rfl, by decide +kernel, rfl, by decide +kernel, by decide +kernel⟩
abbrev s_Namer___repr__ : Stmt := inClass (top 35) 5
abbrev p_Namer___repr__ : List Str := ["self"]
abbrev s_check_namer : Stmt := top 36
abbrev lv_check_namer : Nat := 5
abbrev n_check_namer : List Str := ["value"]
abbrev p_check_namer : List Str := ["value"]
theorem sc_check_namer : FnScope n_check_namer p_check_namer (L2.defScope s_check_namer) := ⟨rfl, rfl, rfl, by decide +kernel, rfl, by decide +kernel, by decide +kernel⟩
abbrev s_Shelf___init__ : Stmt := inClass (top 39) 0
abbrev lv_Shelf___init__ : Nat := 6
abbrev n_Shelf___init__ : List Str := ["self", "namer"]
abbrev p_Shelf___init__ : List Str := ["self", "namer"]
theorem st_Shelf___init__ (d0 d1 : D) : startD n_Shelf___init__ [d0, d1] = [some d0, some d1] := rfl
theorem sc_Shelf___init__ : FnScope n_Shelf___init__ p_Shelf___init__ (L2.defScope s_Shelf___init__) := ⟨rfl, rfl, rfl, by decide +kernel, rfl, by decide +kernel, by decide +kernel⟩
abbrev s_Shelf_settle : Stmt := inClass (top 39) 1
abbrev lv_Shelf_settle : Nat := 1
abbrev n_Shelf_settle : List Str := ["self", "there", "text", "name"]
abbrev p_Shelf_settle : List Str := ["self", "there"]
theorem st_Shelf_settle (d0 d1 : D) : startD n_Shelf_settle [d0, d1] = [some d0, some d1, none, none] := rfl
theorem sc_Shelf_settle : FnScope n_Shelf_settle p_Shelf_settle (L2.defScope s_Shelf_settle) := ⟨rfl, rfl, rfl, by decide +kernel, rfl, by decide +kernel, by decide +kernel⟩
abbrev s_Shelf_change : Stmt := inClass (top 39) 2
abbrev lv_Shelf_change : Nat := 2
abbrev n_Shelf_change : List Str := ["self", "there"]
abbrev p_Shelf_change : List Str := ["self", "there"]
theorem st_Shelf_change (d0 d1 : D) : startD n_Shelf_change [d0, d1] = [some d0, some d1] := rfl
theorem sc_Shelf_change : FnScope n_Shelf_change p_Shelf_change (L2.defScope s_Shelf_change) := ⟨rfl, rfl, rfl, by decide +kernel, rfl, by decide +kernel, by decide +kernel⟩
abbrev s_Shelf_check_idle : Stmt := inClass (top 39) 3
abbrev lv_Shelf_check_idle : Nat := 1
abbrev n_Shelf_check_idle : List Str := ["self"]
abbrev p_Shelf_check_idle : List Str := ["self"]
theorem st_Shelf_check_idle (d0 : D) : startD n_Shelf_check_idle [d0] = [some d0] := rfl
theorem sc_Shelf_check_idle : FnScope n_Shelf_check_idle p_Shelf_check_idle (L2.defScope s_Shelf_check_idle) := ⟨rfl, rfl, rfl, by decide +kernel, rfl, by decide +kernel, by decide +kernel⟩
abbrev s_Shelf_let_come : Stmt := inClass (top 39) 4
abbrev lv_Shelf_let_come : Nat := 4
abbrev n_Shelf_let_come : List Str := ["self", "text", "name"]
abbrev p_Shelf_let_come : List Str := ["self", "text"]
theorem st_Shelf_let_come (d0 d1 : D) : startD n_Shelf_let_come [d0, d1] = [some d0, some d1, none] := rfl
theorem sc_Shelf_let_come : FnScope n_Shelf_let_come p_Shelf_let_come (L2.defScope s_Shelf_let_come) := ⟨rfl, rfl, rfl, by decide +kernel, rfl, by decide +kernel, by decide +kernel⟩
abbrev s_Shelf_let_go : Stmt := inClass (top 39) 5
abbrev lv_Shelf_let_go : Nat := 3
abbrev n_Shelf_let_go : List Str := ["self", "name", "place", "text"]
abbrev p_Shelf_let_go : List Str := ["self", "name"]
theorem st_Shelf_let_go (d0 d1 : D) : startD n_Shelf_let_go [d0, d1] = [some d0, some d1, none, none] := rfl
theorem sc_Shelf_let_go : FnScope n_Shelf_let_go p_Shelf_let_go (L2.defScope s_Shelf_let_go) := ⟨rfl, rfl, rfl, by decide +kernel, rfl, by decide +kernel, by decide +kernel⟩
abbrev s_Shelf_add : Stmt := inClass (top 39) 6
abbrev lv_Shelf_add : Nat := 5
abbrev n_Shelf_add : List Str := ["self", "text"]
abbrev p_Shelf_add : List Str := ["self", "text"]
theorem st_Shelf_add (d0 d1 : D) : startD n_Shelf_add [d0, d1] = [some d0, some d1] := rfl
theorem sc_Shelf_add : FnScope n_Shelf_add p_Shelf_add (L2.defScope s_Shelf_add) := ⟨rfl, rfl, rfl, by decide +kernel, rfl, by decide +kernel, by decide +kernel⟩
abbrev s_Shelf_remove : Stmt := inClass (top 39) 7
abbrev lv_Shelf_remove : Nat := 4
abbrev n_Shelf_remove : List Str := ["self", "name"]
abbrev p_Shelf_remove : List Str := ["self", "name"]
theorem st_Shelf_remove (d0 d1 : D) : startD n_Shelf_remove [d0, d1] = [some d0, some d1] := rfl
theorem sc_Shelf_remove : FnScope n_Shelf_remove p_Shelf_remove (L2.defScope s_Shelf_remove) := ⟨rfl, rfl, rfl, by decide +kernel, rfl, by decide +kernel, by decide +kernel⟩
abbrev s_Shelf_undo : Stmt := inClass (top 39) 9
abbrev lv_Shelf_undo : Nat := 2
abbrev n_Shelf_undo : List Str := ["self"]
abbrev p_Shelf_undo : List Str := ["self"]
theorem st_Shelf_undo (d0 : D) : startD n_Shelf_undo [d0] = [some d0] := rfl
theorem sc_Shelf_undo : FnScope n_Shelf_undo p_Shelf_undo (L2.defScope s_Shelf_undo) := ⟨rfl, rfl, rfl, by decide +kernel, rfl, by decide +kernel, by decide +kernel⟩
abbrev s_Shelf_trial : Stmt := inClass (top 39) 10
abbrev p_Shelf_trial : List Str := ["self"]
abbrev s_Shelf___len__ : Stmt := inClass (top 39) 11
abbrev lv_Shelf___len__ : Nat := 1
abbrev n_Shelf___len__ : List Str := ["self"]
abbrev p_Shelf___len__ : List Str := ["self"]
theorem st_Shelf___len__ (d0 : D) : startD n_Shelf___len__ [d0] = [some d0] := rfl
theorem sc_Shelf___len__ : FnScope n_Shelf___len__ p_Shelf___len__ (L2.defScope s_Shelf___len__) := ⟨rfl, rfl, rfl, by decide +kernel, rfl, by decide +kernel, by decide +kernel⟩
abbrev s_Shelf___repr__ : Stmt := inClass (top 39) 12
abbrev lv_Shelf___repr__ : Nat := 1
abbrev n_Shelf___repr__ : List Str := ["self"]
abbrev p_Shelf___repr__ : List Str := ["self"]
theorem st_Shelf___repr__ (d0 : D) : startD n_Shelf___repr__ [d0] = [some d0] := rfl
theorem sc_Shelf___repr__ : FnScope n_Shelf___repr__ p_Shelf___repr__ (L2.defScope s_Shelf___repr__) := ⟨rfl, rfl, rfl, by decide +kernel, rfl, by decide +kernel, by decide +kernel⟩
abbrev s_check_deeds : Stmt := top 40
abbrev p_check_deeds : List Str := ["deeds"]
abbrev s__law_source : Stmt := top 42
abbrev lv__law_source : Nat := 1
abbrev n__law_source : List Str := ["_law_cells", "_law_turn", "_law_mixed", "_law_cell", "_law_own"]
abbrev p__law_source : List Str := ["_law_cells", "_law_turn"]
theorem sc__law_source : FnScope n__law_source p__law_source (L2.defScope s__law_source) := ⟨rfl, rfl, rfl, by decide +kernel, rfl, by decide +kernel, by decide +kernel⟩
abbrev s__law_draw : Stmt := top 43
abbrev lv__law_draw : Nat := 1
abbrev n__law_draw : List Str := ["_law_source_here", "_law_size", "_law_digit", "_law_state", "_law_factor"]
abbrev p__law_draw : List Str := ["_law_source_here", "_law_size"]
theorem sc__law_draw : FnScope n__law_draw p__law_draw (L2.defScope s__law_draw) := ⟨rfl, rfl, rfl, by decide +kernel, rfl, by decide +kernel, by decide +kernel⟩
abbrev s__law_one : Stmt := top 44
abbrev lv__law_one : Nat := 2
abbrev n__law_one : List Str := ["_law_source_here", "_law_some"]
abbrev p__law_one : List Str := ["_law_source_here", "_law_some"]
theorem sc__law_one : FnScope n__law_one p__law_one (L2.defScope s__law_one) := ⟨rfl, rfl, rfl, by decide +kernel, rfl, by decide +kernel, by decide +kernel⟩
abbrev s__law_stem : Stmt := top 45
abbrev lv__law_stem : Nat := 2
abbrev n__law_stem : List Str := ["_law_source_here", "_law_size", "_law_abc", "_law_k"]
abbrev p__law_stem : List Str := ["_law_source_here", "_law_size"]
theorem sc__law_stem : FnScope n__law_stem p__law_stem (L2.defScope s__law_stem) := ⟨rfl, rfl, rfl, by decide +kernel, rfl, by decide +kernel, by decide +kernel⟩
abbrev s__law_word : Stmt := top 46
abbrev lv__law_word : Nat := 8
abbrev n__law_word : List Str := ["_law_source_here", "_law_stems", "_law_way", "_law_stem_here"]
abbrev p__law_word : List Str := ["_law_source_here", "_law_stems"]
theorem sc__law_word : FnScope n__law_word p__law_word (L2.defScope s__law_word) := ⟨rfl, rfl, rfl, by decide +kernel, rfl, by decide +kernel, by decide +kernel⟩
abbrev s__law_numbered : Stmt := top 47
abbrev lv__law_numbered : Nat := 8
abbrev n__law_numbered : List Str := ["_law_sort", "_law_size", "_law_text_here", "_law_number", "_law_ending", "_law_base"]
abbrev p__law_numbered : List Str := ["_law_sort", "_law_size", "_law_text_here", "_law_number"]
theorem st__law_numbered (d0 d1 d2 d3 : D) : startD n__law_numbered [d0, d1, d2, d3] = [some d0, some d1, some d2, some d3, none, none] := rfl
theorem sc__law_numbered : FnScope n__law_numbered p__law_numbered (L2.defScope s__law_numbered) := ⟨rfl, rfl, rfl, by decide +kernel, rfl, by decide +kernel, by decide +kernel⟩
abbrev s__law_name : Stmt := top 48
abbrev lv__law_name : Nat := 9
abbrev n__law_name : List Str := ["_law_sort", "_law_size", "_law_text_here", "_law_there", "_law_base", "_law_mates", "_law_taken", "_law_number", "_law_found", "_law_pair"]
abbrev p__law_name : List Str := ["_law_sort", "_law_size", "_law_text_here", "_law_there"]
theorem st__law_name (d0 d1 d2 d3 : D) : startD n__law_name [d0, d1, d2, d3] = [some d0, some d1, some d2, some d3, none, none, none, none, none, none] := rfl
theorem sc__law_name : FnScope n__law_name p__law_name (L2.defScope s__law_name) := ⟨rfl, rfl, rfl, by decide +kernel, rfl, by decide +kernel, by decide +kernel⟩
abbrev s__law_refusal : Stmt := top 50
abbrev lv__law_refusal : Nat := 8
abbrev n__law_refusal : List Str := ["_law_e", "_law_rows", "_law_under", "_law_plain", "_law_at", "_law_words"]
abbrev p__law_refusal : List Str := ["_law_e"]
theorem st__law_refusal (d0 : D) : startD n__law_refusal [d0] = [some d0, none, none, none, none, none] := rfl
theorem sc__law_refusal : FnScope n__law_refusal p__law_refusal (L2.defScope s__law_refusal) := ⟨rfl, rfl, rfl, by decide +kernel, rfl, by decide +kernel, by decide +kernel⟩
abbrev s__law_tried : Stmt := top 51
abbrev n__law_tried : List Str := ["_law_act", "_law_told", "_law_e"]
abbrev p__law_tried : List Str := ["_law_act"]
theorem sc__law_tried : FnScope n__law_tried p__law_tried (L2.defScope s__law_tried) := ⟨rfl, rfl, rfl, by decide +kernel, rfl, by decide +kernel, by decide +kernel⟩
abbrev s__law_is : Stmt := top 52
abbrev lv__law_is : Nat := 8
abbrev n__law_is : List Str := ["_law_told", "_law_due"]
abbrev p__law_is : List Str := ["_law_told", "_law_due"]
theorem st__law_is (d0 d1 : D) : startD n__law_is [d0, d1] = [some d0, some d1] := rfl
theorem sc__law_is : FnScope n__law_is p__law_is (L2.defScope s__law_is) := ⟨rfl, rfl, rfl, by decide +kernel, rfl, by decide +kernel, by decide +kernel⟩
abbrev s__law_added : Stmt := top 53
abbrev lv__law_added : Nat := 10
abbrev n__law_added : List Str := ["_law_sort", "_law_size", "_law_there", "_law_text_here"]
abbrev p__law_added : List Str := ["_law_sort", "_law_size", "_law_there", "_law_text_here"]
theorem st__law_added (d0 d1 d2 d3 : D) : startD n__law_added [d0, d1, d2, d3] = [some d0, some d1, some d2, some d3] := rfl
theorem sc__law_added : FnScope n__law_added p__law_added (L2.defScope s__law_added) := ⟨rfl, rfl, rfl, by decide +kernel, rfl, by decide +kernel, by decide +kernel⟩
abbrev s__law_removed : Stmt := top 54
abbrev lv__law_removed : Nat := 8
abbrev n__law_removed : List Str := ["_law_there", "_law_name_here", "_law_spots", "_law_k"]
abbrev p__law_removed : List Str := ["_law_there", "_law_name_here"]
theorem st__law_removed (d0 d1 : D) : startD n__law_removed [d0, d1] = [some d0, some d1, none, none] := rfl
theorem sc__law_removed : FnScope n__law_removed p__law_removed (L2.defScope s__law_removed) := ⟨rfl, rfl, rfl, by decide +kernel, rfl, by decide +kernel, by decide +kernel⟩
abbrev s__law_shelf_is : Stmt := top 55
abbrev lv__law_shelf_is : Nat := 8
abbrev n__law_shelf_is : List Str := ["_law_mine", "_law_there", "_law_is_busy", "_law_told", "_law_due", "_law_pair"]
abbrev p__law_shelf_is : List Str := ["_law_mine", "_law_there", "_law_is_busy"]
theorem st__law_shelf_is (d0 d1 d2 : D) : startD n__law_shelf_is [d0, d1, d2] = [some d0, some d1, some d2, none, none, none] := rfl
theorem sc__law_shelf_is : FnScope n__law_shelf_is p__law_shelf_is (L2.defScope s__law_shelf_is) := ⟨rfl, rfl, rfl, by decide +kernel, rfl, by decide +kernel, by decide +kernel⟩
abbrev s__law_added_right : Stmt := top 56
abbrev lv__law_added_right : Nat := 11
abbrev n__law_added_right : List Str := ["_law_mine", "_law_sort", "_law_size", "_law_there", "_law_text_here", "_law_told", "_law_later"]
abbrev p__law_added_right : List Str := ["_law_mine", "_law_sort", "_law_size", "_law_there", "_law_text_here"]
theorem st__law_added_right (d0 d1 d2 d3 d4 : D) : startD n__law_added_right [d0, d1, d2, d3, d4] = [some d0, some d1, some d2, some d3, some d4, none, none] := rfl
theorem sc__law_added_right : FnScope n__law_added_right p__law_added_right (L2.defScope s__law_added_right) := ⟨rfl, rfl, rfl, by decide +kernel, rfl, by decide +kernel, by decide +kernel⟩
abbrev s__law_removed_right : Stmt := top 57
abbrev lv__law_removed_right : Nat := 10
abbrev n__law_removed_right : List Str := ["_law_mine", "_law_there", "_law_name_here", "_law_told", "_law_later", "_law_gone", "_law_pair"]
abbrev p__law_removed_right : List Str := ["_law_mine", "_law_there", "_law_name_here"]
theorem st__law_removed_right (d0 d1 d2 : D) : startD n__law_removed_right [d0, d1, d2] = [some d0, some d1, some d2, none, none, none, none] := rfl
theorem sc__law_removed_right : FnScope n__law_removed_right p__law_removed_right (L2.defScope s__law_removed_right) := ⟨rfl, rfl, rfl, by decide +kernel, rfl, by decide +kernel, by decide +kernel⟩
abbrev s__law_step : Stmt := top 58
abbrev lv__law_step : Nat := 12
abbrev n__law_step : List Str := ["_law_source_here", "_law_mine", "_law_sort", "_law_size", "_law_there", "_law_stems", "_law_way", "_law_word_here", "_law_odd"]
abbrev p__law_step : List Str := ["_law_source_here", "_law_mine", "_law_sort", "_law_size", "_law_there", "_law_stems"]
theorem st__law_step (d0 d1 d2 d3 d4 d5 : D) : startD n__law_step [d0, d1, d2, d3, d4, d5] = [some d0, some d1, some d2, some d3, some d4, some d5, none, none, none] := rfl
theorem sc__law_step : FnScope n__law_step p__law_step (L2.defScope s__law_step) := ⟨rfl, rfl, rfl, by decide +kernel, rfl, by decide +kernel, by decide +kernel⟩
abbrev s_law : Stmt := top 59
abbrev lv_law : Nat := 13
abbrev n_law : List Str := ["_law_script", "_law_source_here", "_law_sort", "_law_size", "_law_stems", "_law_mine", "_law_there", "_law_past", "_law_k", "_law_told", "_law_later", "_law_turn"]
abbrev p_law : List Str := ["_law_script"]
theorem st_law (d0 : D) : startD n_law [d0] = [some d0, none, none, none, none, none, none, none, none, none, none, none] := rfl
theorem sc_law : FnScope n_law p_law (L2.defScope s_law) := ⟨rfl, rfl, rfl, by decide +kernel, rfl, by decide +kernel, by decide +kernel⟩
structure Tx (K : PySem.W.Frag) (mg : Str → Option Value) where
  n_ArithmeticError : mg "ArithmeticError" = none
  n_LookupError : mg "LookupError" = none
  n_ValueError : mg "ValueError" = none
  n_abs : mg "abs" = none
  n_all : mg "all" = none
  n_bool : mg "bool" = none
  n_divmod : mg "divmod" = none
  n_enumerate : mg "enumerate" = none
  n_int : mg "int" = none
  n_isinstance : mg "isinstance" = none
  n_len : mg "len" = none
  n_max : mg "max" = none
  n_min : mg "min" = none
  n_range : mg "range" = none
  n_repr : mg "repr" = none
  n_str : mg "str" = none
  n_tuple : mg "tuple" = none
  k_MOST_SIGNS : ∃ u, mg "MOST_SIGNS" = some u ∧ RelV (.int 40) u
  k_MOST_TEXT : ∃ u, mg "MOST_TEXT" = some u ∧ RelV (.int 200) u
  k_MOST_SHELVED : ∃ u, mg "MOST_SHELVED" = some u ∧ RelV (.int 20) u
  k_SIGNS : ∃ u, mg "SIGNS" = some u ∧ RelV (.str (PySem.Str.ofString ".0123456789abcdefghijklmnopqrstuvwxyz~")) u
  a_RULES : Addr
  m_RULES : mg "RULES" = some (.ref a_RULES)
  q_RULES : ∀ H : Hp, SqT K H a_RULES [.str (PySem.Str.ofString "count"), .str (PySem.Str.ofString "free"), .str (PySem.Str.ofString "tight")]
  k_LEAST_WIDTH : ∃ u, mg "LEAST_WIDTH" = some u ∧ RelV (.int 6) u
  k_FIRST_NUMBER : ∃ u, mg "FIRST_NUMBER" = some u ∧ RelV (.int 2) u
  a_DEEDS : Addr
  m_DEEDS : mg "DEEDS" = some (.ref a_DEEDS)
  q_DEEDS : ∀ H : Hp, SqT K H a_DEEDS [.str (PySem.Str.ofString "add"), .str (PySem.Str.ofString "remove")]
  C_InputError : Addr
  m_InputError : mg "InputError" = some (.ref C_InputError)
  C_StateError : Addr
  m_StateError : mg "StateError" = some (.ref C_StateError)
  C_SizeError : Addr
  m_SizeError : mg "SizeError" = some (.ref C_SizeError)
  C_InvalidNumber : Addr
  m_InvalidNumber : mg "InvalidNumber" = some (.ref C_InvalidNumber)
  C_InvalidMark : Addr
  m_InvalidMark : mg "InvalidMark" = some (.ref C_InvalidMark)
  C_InvalidText : Addr
  m_InvalidText : mg "InvalidText" = some (.ref C_InvalidText)
  C_InvalidLength : Addr
  m_InvalidLength : mg "InvalidLength" = some (.ref C_InvalidLength)
  C_InvalidRule : Addr
  m_InvalidRule : mg "InvalidRule" = some (.ref C_InvalidRule)
  C_InvalidWidth : Addr
  m_InvalidWidth : mg "InvalidWidth" = some (.ref C_InvalidWidth)
  C_InvalidPlace : Addr
  m_InvalidPlace : mg "InvalidPlace" = some (.ref C_InvalidPlace)
  C_InvalidLine : Addr
  m_InvalidLine : mg "InvalidLine" = some (.ref C_InvalidLine)
  C_NotANamer : Addr
  m_NotANamer : mg "NotANamer" = some (.ref C_NotANamer)
  C_NotAShelf : Addr
  m_NotAShelf : mg "NotAShelf" = some (.ref C_NotAShelf)
  C_InvalidRow : Addr
  m_InvalidRow : mg "InvalidRow" = some (.ref C_InvalidRow)
  C_InvalidViews : Addr
  m_InvalidViews : mg "InvalidViews" = some (.ref C_InvalidViews)
  C_InvalidTexts : Addr
  m_InvalidTexts : mg "InvalidTexts" = some (.ref C_InvalidTexts)
  C_InvalidDeeds : Addr
  m_InvalidDeeds : mg "InvalidDeeds" = some (.ref C_InvalidDeeds)
  C_NothingToUndo : Addr
  m_NothingToUndo : mg "NothingToUndo" = some (.ref C_NothingToUndo)
  C_Busy : Addr
  m_Busy : mg "Busy" = some (.ref C_Busy)
  C_UnknownName : Addr
  m_UnknownName : mg "UnknownName" = some (.ref C_UnknownName)
  C_TooMany : Addr
  m_TooMany : mg "TooMany" = some (.ref C_TooMany)
  o_InvalidText : L2.OexC K C_InvalidText
  na_InvalidText_value : PySem.W.findIn K (.ref C_InvalidText) "value" = some none
  f_InvalidText___init__ : Addr
  d_InvalidText___init__ : FuncData
  F_InvalidText___init__ : L2.Fun K "__init__" "InvalidText.__init__" s_InvalidText___init__ f_InvalidText___init__ d_InvalidText___init__
  b_InvalidText___init__ : Binds K d_InvalidText___init__ p_InvalidText___init__ []
  i_InvalidText : PySem.W.findIn K (.ref C_InvalidText) "__init__" = some (some (.ref f_InvalidText___init__))
  j_InvalidText : PySem.W.typeIn K (.ref f_InvalidText___init__) = some (.type "function")
  o_InvalidRule : L2.OexC K C_InvalidRule
  na_InvalidRule_value : PySem.W.findIn K (.ref C_InvalidRule) "value" = some none
  f_InvalidRule___init__ : Addr
  d_InvalidRule___init__ : FuncData
  F_InvalidRule___init__ : L2.Fun K "__init__" "InvalidRule.__init__" s_InvalidRule___init__ f_InvalidRule___init__ d_InvalidRule___init__
  b_InvalidRule___init__ : Binds K d_InvalidRule___init__ p_InvalidRule___init__ []
  i_InvalidRule : PySem.W.findIn K (.ref C_InvalidRule) "__init__" = some (some (.ref f_InvalidRule___init__))
  j_InvalidRule : PySem.W.typeIn K (.ref f_InvalidRule___init__) = some (.type "function")
  o_InvalidWidth : L2.OexC K C_InvalidWidth
  na_InvalidWidth_value : PySem.W.findIn K (.ref C_InvalidWidth) "value" = some none
  f_InvalidWidth___init__ : Addr
  d_InvalidWidth___init__ : FuncData
  F_InvalidWidth___init__ : L2.Fun K "__init__" "InvalidWidth.__init__" s_InvalidWidth___init__ f_InvalidWidth___init__ d_InvalidWidth___init__
  b_InvalidWidth___init__ : Binds K d_InvalidWidth___init__ p_InvalidWidth___init__ []
  i_InvalidWidth : PySem.W.findIn K (.ref C_InvalidWidth) "__init__" = some (some (.ref f_InvalidWidth___init__))
  j_InvalidWidth : PySem.W.typeIn K (.ref f_InvalidWidth___init__) = some (.type "function")
  o_NotANamer : L2.OexC K C_NotANamer
  na_NotANamer_value : PySem.W.findIn K (.ref C_NotANamer) "value" = some none
  f_NotANamer___init__ : Addr
  d_NotANamer___init__ : FuncData
  F_NotANamer___init__ : L2.Fun K "__init__" "NotANamer.__init__" s_NotANamer___init__ f_NotANamer___init__ d_NotANamer___init__
  b_NotANamer___init__ : Binds K d_NotANamer___init__ p_NotANamer___init__ []
  i_NotANamer : PySem.W.findIn K (.ref C_NotANamer) "__init__" = some (some (.ref f_NotANamer___init__))
  j_NotANamer : PySem.W.typeIn K (.ref f_NotANamer___init__) = some (.type "function")
  o_InvalidDeeds : L2.OexC K C_InvalidDeeds
  na_InvalidDeeds_index : PySem.W.findIn K (.ref C_InvalidDeeds) "index" = some none
  f_InvalidDeeds___init__ : Addr
  d_InvalidDeeds___init__ : FuncData
  F_InvalidDeeds___init__ : L2.Fun K "__init__" "InvalidDeeds.__init__" s_InvalidDeeds___init__ f_InvalidDeeds___init__ d_InvalidDeeds___init__
  b_InvalidDeeds___init__ : Binds K d_InvalidDeeds___init__ p_InvalidDeeds___init__ []
  i_InvalidDeeds : PySem.W.findIn K (.ref C_InvalidDeeds) "__init__" = some (some (.ref f_InvalidDeeds___init__))
  j_InvalidDeeds : PySem.W.typeIn K (.ref f_InvalidDeeds___init__) = some (.type "function")
  o_UnknownName : V.OexG K C_UnknownName "LookupError" "LookupError.__new__" "LookupError.__init__" V.tlLookup
  na_UnknownName_value : PySem.W.findIn K (.ref C_UnknownName) "value" = some none
  f_UnknownName___init__ : Addr
  d_UnknownName___init__ : FuncData
  F_UnknownName___init__ : L2.Fun K "__init__" "UnknownName.__init__" s_UnknownName___init__ f_UnknownName___init__ d_UnknownName___init__
  b_UnknownName___init__ : Binds K d_UnknownName___init__ p_UnknownName___init__ []
  i_UnknownName : PySem.W.findIn K (.ref C_UnknownName) "__init__" = some (some (.ref f_UnknownName___init__))
  j_UnknownName : PySem.W.typeIn K (.ref f_UnknownName___init__) = some (.type "function")
  o_TooMany : V.OexG K C_TooMany "ArithmeticError" "ArithmeticError.__new__" "ArithmeticError.__init__" V.tlArith
  na_TooMany_limit : PySem.W.findIn K (.ref C_TooMany) "limit" = some none
  f_TooMany___init__ : Addr
  d_TooMany___init__ : FuncData
  F_TooMany___init__ : L2.Fun K "__init__" "TooMany.__init__" s_TooMany___init__ f_TooMany___init__ d_TooMany___init__
  b_TooMany___init__ : Binds K d_TooMany___init__ p_TooMany___init__ []
  i_TooMany : PySem.W.findIn K (.ref C_TooMany) "__init__" = some (some (.ref f_TooMany___init__))
  j_TooMany : PySem.W.typeIn K (.ref f_TooMany___init__) = some (.type "function")
  q_Busy : PySem.W.excIn K C_Busy V.tlLookup "LookupError.__new__" = true
  kq_Busy : PySem.W.keepIn K (.ref C_Busy) = true
  bq_Busy : PySem.W.subIn K (.ref C_Busy) (.type "BaseException") = some true
  tq_Busy : PySem.W.typeIn K (.ref C_Busy) = some (.type "type")
  q_NothingToUndo : PySem.W.excIn K C_NothingToUndo V.tlLookup "LookupError.__new__" = true
  kq_NothingToUndo : PySem.W.keepIn K (.ref C_NothingToUndo) = true
  bq_NothingToUndo : PySem.W.subIn K (.ref C_NothingToUndo) (.type "BaseException") = some true
  tq_NothingToUndo : PySem.W.typeIn K (.ref C_NothingToUndo) = some (.type "type")
  xf_InvalidText : XfC K C_InvalidText
  ex_InvalidText : L2.ExcC K C_InvalidText
  kr_InvalidText_0 : PySem.W.kitOne K (.ref C_InvalidText) (.ref C_InvalidNumber) = some false
  kr_InvalidText_1 : PySem.W.kitOne K (.ref C_InvalidText) (.ref C_InvalidMark) = some false
  kr_InvalidText_2 : PySem.W.kitOne K (.ref C_InvalidText) (.ref C_InvalidText) = some true
  kr_InvalidText_3 : PySem.W.kitOne K (.ref C_InvalidText) (.ref C_InvalidLength) = some false
  kr_InvalidText_4 : PySem.W.kitOne K (.ref C_InvalidText) (.ref C_InvalidRule) = some false
  kr_InvalidText_5 : PySem.W.kitOne K (.ref C_InvalidText) (.ref C_InvalidWidth) = some false
  kr_InvalidText_6 : PySem.W.kitOne K (.ref C_InvalidText) (.ref C_InvalidPlace) = some false
  kr_InvalidText_7 : PySem.W.kitOne K (.ref C_InvalidText) (.ref C_InvalidLine) = some false
  kr_InvalidText_8 : PySem.W.kitOne K (.ref C_InvalidText) (.ref C_NotANamer) = some false
  kr_InvalidText_9 : PySem.W.kitOne K (.ref C_InvalidText) (.ref C_NotAShelf) = some false
  kr_InvalidText_10 : PySem.W.kitOne K (.ref C_InvalidText) (.ref C_InvalidRow) = some false
  kr_InvalidText_11 : PySem.W.kitOne K (.ref C_InvalidText) (.ref C_InvalidViews) = some false
  kr_InvalidText_12 : PySem.W.kitOne K (.ref C_InvalidText) (.ref C_InvalidTexts) = some false
  kr_InvalidText_13 : PySem.W.kitOne K (.ref C_InvalidText) (.ref C_InvalidDeeds) = some false
  kr_InvalidText_14 : PySem.W.kitOne K (.ref C_InvalidText) (.ref C_NothingToUndo) = some false
  kr_InvalidText_15 : PySem.W.kitOne K (.ref C_InvalidText) (.ref C_Busy) = some false
  kr_InvalidText_16 : PySem.W.kitOne K (.ref C_InvalidText) (.ref C_UnknownName) = some false
  kr_InvalidText_17 : PySem.W.kitOne K (.ref C_InvalidText) (.ref C_TooMany) = some false
  kr_InvalidText_18 : PySem.W.kitOne K (.ref C_InvalidText) (.ref C_InputError) = some true
  kr_InvalidText_19 : PySem.W.kitOne K (.ref C_InvalidText) (.ref C_StateError) = some false
  kr_InvalidText_20 : PySem.W.kitOne K (.ref C_InvalidText) (.ref C_SizeError) = some false
  kr_InvalidText_21 : PySem.W.kitOne K (.ref C_InvalidText) (.type "ValueError") = some true
  kr_InvalidText_22 : PySem.W.kitOne K (.ref C_InvalidText) (.type "LookupError") = some false
  kr_InvalidText_23 : PySem.W.kitOne K (.ref C_InvalidText) (.type "ArithmeticError") = some false
  xf_TooMany : XfC K C_TooMany
  ex_TooMany : L2.ExcC K C_TooMany
  kr_TooMany_0 : PySem.W.kitOne K (.ref C_TooMany) (.ref C_InvalidNumber) = some false
  kr_TooMany_1 : PySem.W.kitOne K (.ref C_TooMany) (.ref C_InvalidMark) = some false
  kr_TooMany_2 : PySem.W.kitOne K (.ref C_TooMany) (.ref C_InvalidText) = some false
  kr_TooMany_3 : PySem.W.kitOne K (.ref C_TooMany) (.ref C_InvalidLength) = some false
  kr_TooMany_4 : PySem.W.kitOne K (.ref C_TooMany) (.ref C_InvalidRule) = some false
  kr_TooMany_5 : PySem.W.kitOne K (.ref C_TooMany) (.ref C_InvalidWidth) = some false
  kr_TooMany_6 : PySem.W.kitOne K (.ref C_TooMany) (.ref C_InvalidPlace) = some false
  kr_TooMany_7 : PySem.W.kitOne K (.ref C_TooMany) (.ref C_InvalidLine) = some false
  kr_TooMany_8 : PySem.W.kitOne K (.ref C_TooMany) (.ref C_NotANamer) = some false
  kr_TooMany_9 : PySem.W.kitOne K (.ref C_TooMany) (.ref C_NotAShelf) = some false
  kr_TooMany_10 : PySem.W.kitOne K (.ref C_TooMany) (.ref C_InvalidRow) = some false
  kr_TooMany_11 : PySem.W.kitOne K (.ref C_TooMany) (.ref C_InvalidViews) = some false
  kr_TooMany_12 : PySem.W.kitOne K (.ref C_TooMany) (.ref C_InvalidTexts) = some false
  kr_TooMany_13 : PySem.W.kitOne K (.ref C_TooMany) (.ref C_InvalidDeeds) = some false
  kr_TooMany_14 : PySem.W.kitOne K (.ref C_TooMany) (.ref C_NothingToUndo) = some false
  kr_TooMany_15 : PySem.W.kitOne K (.ref C_TooMany) (.ref C_Busy) = some false
  kr_TooMany_16 : PySem.W.kitOne K (.ref C_TooMany) (.ref C_UnknownName) = some false
  kr_TooMany_17 : PySem.W.kitOne K (.ref C_TooMany) (.ref C_TooMany) = some true
  kr_TooMany_18 : PySem.W.kitOne K (.ref C_TooMany) (.ref C_InputError) = some false
  kr_TooMany_19 : PySem.W.kitOne K (.ref C_TooMany) (.ref C_StateError) = some false
  kr_TooMany_20 : PySem.W.kitOne K (.ref C_TooMany) (.ref C_SizeError) = some true
  kr_TooMany_21 : PySem.W.kitOne K (.ref C_TooMany) (.type "ValueError") = some false
  kr_TooMany_22 : PySem.W.kitOne K (.ref C_TooMany) (.type "LookupError") = some false
  kr_TooMany_23 : PySem.W.kitOne K (.ref C_TooMany) (.type "ArithmeticError") = some true
  xf_UnknownName : XfC K C_UnknownName
  ex_UnknownName : L2.ExcC K C_UnknownName
  kr_UnknownName_0 : PySem.W.kitOne K (.ref C_UnknownName) (.ref C_InvalidNumber) = some false
  kr_UnknownName_1 : PySem.W.kitOne K (.ref C_UnknownName) (.ref C_InvalidMark) = some false
  kr_UnknownName_2 : PySem.W.kitOne K (.ref C_UnknownName) (.ref C_InvalidText) = some false
  kr_UnknownName_3 : PySem.W.kitOne K (.ref C_UnknownName) (.ref C_InvalidLength) = some false
  kr_UnknownName_4 : PySem.W.kitOne K (.ref C_UnknownName) (.ref C_InvalidRule) = some false
  kr_UnknownName_5 : PySem.W.kitOne K (.ref C_UnknownName) (.ref C_InvalidWidth) = some false
  kr_UnknownName_6 : PySem.W.kitOne K (.ref C_UnknownName) (.ref C_InvalidPlace) = some false
  kr_UnknownName_7 : PySem.W.kitOne K (.ref C_UnknownName) (.ref C_InvalidLine) = some false
  kr_UnknownName_8 : PySem.W.kitOne K (.ref C_UnknownName) (.ref C_NotANamer) = some false
  kr_UnknownName_9 : PySem.W.kitOne K (.ref C_UnknownName) (.ref C_NotAShelf) = some false
  kr_UnknownName_10 : PySem.W.kitOne K (.ref C_UnknownName) (.ref C_InvalidRow) = some false
  kr_UnknownName_11 : PySem.W.kitOne K (.ref C_UnknownName) (.ref C_InvalidViews) = some false
  kr_UnknownName_12 : PySem.W.kitOne K (.ref C_UnknownName) (.ref C_InvalidTexts) = some false
  kr_UnknownName_13 : PySem.W.kitOne K (.ref C_UnknownName) (.ref C_InvalidDeeds) = some false
  kr_UnknownName_14 : PySem.W.kitOne K (.ref C_UnknownName) (.ref C_NothingToUndo) = some false
  kr_UnknownName_15 : PySem.W.kitOne K (.ref C_UnknownName) (.ref C_Busy) = some false
  kr_UnknownName_16 : PySem.W.kitOne K (.ref C_UnknownName) (.ref C_UnknownName) = some true
  kr_UnknownName_17 : PySem.W.kitOne K (.ref C_UnknownName) (.ref C_TooMany) = some false
  kr_UnknownName_18 : PySem.W.kitOne K (.ref C_UnknownName) (.ref C_InputError) = some false
  kr_UnknownName_19 : PySem.W.kitOne K (.ref C_UnknownName) (.ref C_StateError) = some true
  kr_UnknownName_20 : PySem.W.kitOne K (.ref C_UnknownName) (.ref C_SizeError) = some false
  kr_UnknownName_21 : PySem.W.kitOne K (.ref C_UnknownName) (.type "ValueError") = some false
  kr_UnknownName_22 : PySem.W.kitOne K (.ref C_UnknownName) (.type "LookupError") = some true
  kr_UnknownName_23 : PySem.W.kitOne K (.ref C_UnknownName) (.type "ArithmeticError") = some false
  xf_NothingToUndo : XfC K C_NothingToUndo
  ex_NothingToUndo : L2.ExcC K C_NothingToUndo
  kr_NothingToUndo_0 : PySem.W.kitOne K (.ref C_NothingToUndo) (.ref C_InvalidNumber) = some false
  kr_NothingToUndo_1 : PySem.W.kitOne K (.ref C_NothingToUndo) (.ref C_InvalidMark) = some false
  kr_NothingToUndo_2 : PySem.W.kitOne K (.ref C_NothingToUndo) (.ref C_InvalidText) = some false
  kr_NothingToUndo_3 : PySem.W.kitOne K (.ref C_NothingToUndo) (.ref C_InvalidLength) = some false
  kr_NothingToUndo_4 : PySem.W.kitOne K (.ref C_NothingToUndo) (.ref C_InvalidRule) = some false
  kr_NothingToUndo_5 : PySem.W.kitOne K (.ref C_NothingToUndo) (.ref C_InvalidWidth) = some false
  kr_NothingToUndo_6 : PySem.W.kitOne K (.ref C_NothingToUndo) (.ref C_InvalidPlace) = some false
  kr_NothingToUndo_7 : PySem.W.kitOne K (.ref C_NothingToUndo) (.ref C_InvalidLine) = some false
  kr_NothingToUndo_8 : PySem.W.kitOne K (.ref C_NothingToUndo) (.ref C_NotANamer) = some false
  kr_NothingToUndo_9 : PySem.W.kitOne K (.ref C_NothingToUndo) (.ref C_NotAShelf) = some false
  kr_NothingToUndo_10 : PySem.W.kitOne K (.ref C_NothingToUndo) (.ref C_InvalidRow) = some false
  kr_NothingToUndo_11 : PySem.W.kitOne K (.ref C_NothingToUndo) (.ref C_InvalidViews) = some false
  kr_NothingToUndo_12 : PySem.W.kitOne K (.ref C_NothingToUndo) (.ref C_InvalidTexts) = some false
  kr_NothingToUndo_13 : PySem.W.kitOne K (.ref C_NothingToUndo) (.ref C_InvalidDeeds) = some false
  kr_NothingToUndo_14 : PySem.W.kitOne K (.ref C_NothingToUndo) (.ref C_NothingToUndo) = some true
  kr_NothingToUndo_15 : PySem.W.kitOne K (.ref C_NothingToUndo) (.ref C_Busy) = some false
  kr_NothingToUndo_16 : PySem.W.kitOne K (.ref C_NothingToUndo) (.ref C_UnknownName) = some false
  kr_NothingToUndo_17 : PySem.W.kitOne K (.ref C_NothingToUndo) (.ref C_TooMany) = some false
  kr_NothingToUndo_18 : PySem.W.kitOne K (.ref C_NothingToUndo) (.ref C_InputError) = some false
  kr_NothingToUndo_19 : PySem.W.kitOne K (.ref C_NothingToUndo) (.ref C_StateError) = some true
  kr_NothingToUndo_20 : PySem.W.kitOne K (.ref C_NothingToUndo) (.ref C_SizeError) = some false
  kr_NothingToUndo_21 : PySem.W.kitOne K (.ref C_NothingToUndo) (.type "ValueError") = some false
  kr_NothingToUndo_22 : PySem.W.kitOne K (.ref C_NothingToUndo) (.type "LookupError") = some true
  kr_NothingToUndo_23 : PySem.W.kitOne K (.ref C_NothingToUndo) (.type "ArithmeticError") = some false
  eh_InvalidText_InputError : PySem.W.exmOne K (.ref C_InvalidText) (.ref C_InputError) = some true
  eh_NothingToUndo_InputError : PySem.W.exmOne K (.ref C_NothingToUndo) (.ref C_InputError) = some false
  eh_UnknownName_InputError : PySem.W.exmOne K (.ref C_UnknownName) (.ref C_InputError) = some false
  eh_TooMany_InputError : PySem.W.exmOne K (.ref C_TooMany) (.ref C_InputError) = some false
  eh_InvalidText_SizeError : PySem.W.exmOne K (.ref C_InvalidText) (.ref C_SizeError) = some false
  eh_NothingToUndo_SizeError : PySem.W.exmOne K (.ref C_NothingToUndo) (.ref C_SizeError) = some false
  eh_UnknownName_SizeError : PySem.W.exmOne K (.ref C_UnknownName) (.ref C_SizeError) = some false
  eh_TooMany_SizeError : PySem.W.exmOne K (.ref C_TooMany) (.ref C_SizeError) = some true
  eh_InvalidText_StateError : PySem.W.exmOne K (.ref C_InvalidText) (.ref C_StateError) = some false
  eh_NothingToUndo_StateError : PySem.W.exmOne K (.ref C_NothingToUndo) (.ref C_StateError) = some true
  eh_UnknownName_StateError : PySem.W.exmOne K (.ref C_UnknownName) (.ref C_StateError) = some true
  eh_TooMany_StateError : PySem.W.exmOne K (.ref C_TooMany) (.ref C_StateError) = some false
  C_Namer : Addr
  m_Namer : mg "Namer" = some (.ref C_Namer)
  c_Namer : Cls K C_Namer
  i_Namer : C8.InsC K C_Namer
  na_Namer_rule : NoAttr K C_Namer "rule"
  na_Namer_width : NoAttr K C_Namer "width"
  ne_Namer : PySem.W.findIn K (.ref C_Namer) "__ne__" = some (some (.builtin "object.__ne__"))
  mo_Namer : PySem.W.mroIn K C_Namer (.type "object") = some true
  no_Namer : V.NoSub K C_Namer
  no2_Namer : V.NoSub2 K C_Namer
  kn_Namer : PySem.W.kitOne K (.type "NoneType") (.ref C_Namer) = some false
  ks_Namer : PySem.W.kitOne K (.type "str") (.ref C_Namer) = some false
  ktt_Namer : PySem.W.kitOne K (.type "tuple") (.ref C_Namer) = some false
  kt_Namer : ∀ t ∈ (["NoneType", "bool", "int", "str", "list", "tuple", "dict"] : List String), PySem.W.kitOne K (.type t) (.ref C_Namer) = some false
  kx_Namer : ∀ t ∈ (["int", "bool", "str", "list", "tuple", "dict"] : List String), PySem.W.kitOne K (.ref C_Namer) (.type t) = some false
  f_Namer___init__ : Addr
  d_Namer___init__ : FuncData
  F_Namer___init__ : L2.Fun K "__init__" "Namer.__init__" s_Namer___init__ f_Namer___init__ d_Namer___init__
  b_Namer___init__ : Binds K d_Namer___init__ p_Namer___init__ []
  M_Namer : Mk K C_Namer f_Namer___init__
  f_Namer_base_of : Addr
  d_Namer_base_of : FuncData
  F_Namer_base_of : L2.Fun K "base_of" "Namer.base_of" s_Namer_base_of f_Namer_base_of d_Namer_base_of
  b_Namer_base_of : Binds K d_Namer_base_of p_Namer_base_of []
  t_Namer_base_of : Meth K C_Namer "base_of" f_Namer_base_of
  f_Namer_numbered : Addr
  d_Namer_numbered : FuncData
  F_Namer_numbered : L2.Fun K "numbered" "Namer.numbered" s_Namer_numbered f_Namer_numbered d_Namer_numbered
  b_Namer_numbered : Binds K d_Namer_numbered p_Namer_numbered []
  t_Namer_numbered : Meth K C_Namer "numbered" f_Namer_numbered
  f_Namer_name_for : Addr
  d_Namer_name_for : FuncData
  F_Namer_name_for : L2.Fun K "name_for" "Namer.name_for" s_Namer_name_for f_Namer_name_for d_Namer_name_for
  b_Namer_name_for : Binds K d_Namer_name_for p_Namer_name_for []
  t_Namer_name_for : Meth K C_Namer "name_for" f_Namer_name_for
  f_Namer___eq__ : Addr
  d_Namer___eq__ : FuncData
  F_Namer___eq__ : L2.Fun K "__eq__" "Namer.__eq__" s_Namer___eq__ f_Namer___eq__ d_Namer___eq__
  b_Namer___eq__ : Binds K d_Namer___eq__ p_Namer___eq__ []
  t_Namer___eq__ : Meth K C_Namer "__eq__" f_Namer___eq__
  f_Namer___repr__ : Addr
  d_Namer___repr__ : FuncData
  F_Namer___repr__ : L2.Fun K "__repr__" "Namer.__repr__" s_Namer___repr__ f_Namer___repr__ d_Namer___repr__
  b_Namer___repr__ : Binds K d_Namer___repr__ p_Namer___repr__ []
  t_Namer___repr__ : Meth K C_Namer "__repr__" f_Namer___repr__
  C_Shelf : Addr
  m_Shelf : mg "Shelf" = some (.ref C_Shelf)
  c_Shelf : Cls K C_Shelf
  i_Shelf : C8.InsC K C_Shelf
  na_Shelf_namer : NoAttr K C_Shelf "namer"
  na_Shelf_there : NoAttr K C_Shelf "there"
  na_Shelf_texts : NoAttr K C_Shelf "texts"
  na_Shelf_names : NoAttr K C_Shelf "names"
  na_Shelf_past : NoAttr K C_Shelf "past"
  na_Shelf_moment : NoAttr K C_Shelf "moment"
  na_Shelf_busy : NoAttr K C_Shelf "busy"
  nb_Shelf : PySem.W.findIn K (.ref C_Shelf) "__bool__" = some none
  kt_Shelf : ∀ t ∈ (["NoneType", "bool", "int", "str", "list", "tuple", "dict"] : List String), PySem.W.kitOne K (.type t) (.ref C_Shelf) = some false
  kx_Shelf : ∀ t ∈ (["int", "bool", "str", "list", "tuple", "dict"] : List String), PySem.W.kitOne K (.ref C_Shelf) (.type t) = some false
  f_Shelf___init__ : Addr
  d_Shelf___init__ : FuncData
  F_Shelf___init__ : L2.Fun K "__init__" "Shelf.__init__" s_Shelf___init__ f_Shelf___init__ d_Shelf___init__
  b_Shelf___init__ : Binds K d_Shelf___init__ p_Shelf___init__ []
  M_Shelf : Mk K C_Shelf f_Shelf___init__
  f_Shelf_settle : Addr
  d_Shelf_settle : FuncData
  F_Shelf_settle : L2.Fun K "settle" "Shelf.settle" s_Shelf_settle f_Shelf_settle d_Shelf_settle
  b_Shelf_settle : Binds K d_Shelf_settle p_Shelf_settle []
  t_Shelf_settle : Meth K C_Shelf "settle" f_Shelf_settle
  f_Shelf_change : Addr
  d_Shelf_change : FuncData
  F_Shelf_change : L2.Fun K "change" "Shelf.change" s_Shelf_change f_Shelf_change d_Shelf_change
  b_Shelf_change : Binds K d_Shelf_change p_Shelf_change []
  t_Shelf_change : Meth K C_Shelf "change" f_Shelf_change
  f_Shelf_check_idle : Addr
  d_Shelf_check_idle : FuncData
  F_Shelf_check_idle : L2.Fun K "check_idle" "Shelf.check_idle" s_Shelf_check_idle f_Shelf_check_idle d_Shelf_check_idle
  b_Shelf_check_idle : Binds K d_Shelf_check_idle p_Shelf_check_idle []
  t_Shelf_check_idle : Meth K C_Shelf "check_idle" f_Shelf_check_idle
  f_Shelf_let_come : Addr
  d_Shelf_let_come : FuncData
  F_Shelf_let_come : L2.Fun K "let_come" "Shelf.let_come" s_Shelf_let_come f_Shelf_let_come d_Shelf_let_come
  b_Shelf_let_come : Binds K d_Shelf_let_come p_Shelf_let_come []
  t_Shelf_let_come : Meth K C_Shelf "let_come" f_Shelf_let_come
  f_Shelf_let_go : Addr
  d_Shelf_let_go : FuncData
  F_Shelf_let_go : L2.Fun K "let_go" "Shelf.let_go" s_Shelf_let_go f_Shelf_let_go d_Shelf_let_go
  b_Shelf_let_go : Binds K d_Shelf_let_go p_Shelf_let_go []
  t_Shelf_let_go : Meth K C_Shelf "let_go" f_Shelf_let_go
  f_Shelf_add : Addr
  d_Shelf_add : FuncData
  F_Shelf_add : L2.Fun K "add" "Shelf.add" s_Shelf_add f_Shelf_add d_Shelf_add
  b_Shelf_add : Binds K d_Shelf_add p_Shelf_add []
  t_Shelf_add : Meth K C_Shelf "add" f_Shelf_add
  f_Shelf_remove : Addr
  d_Shelf_remove : FuncData
  F_Shelf_remove : L2.Fun K "remove" "Shelf.remove" s_Shelf_remove f_Shelf_remove d_Shelf_remove
  b_Shelf_remove : Binds K d_Shelf_remove p_Shelf_remove []
  t_Shelf_remove : Meth K C_Shelf "remove" f_Shelf_remove
  f_Shelf_undo : Addr
  d_Shelf_undo : FuncData
  F_Shelf_undo : L2.Fun K "undo" "Shelf.undo" s_Shelf_undo f_Shelf_undo d_Shelf_undo
  b_Shelf_undo : Binds K d_Shelf_undo p_Shelf_undo []
  t_Shelf_undo : Meth K C_Shelf "undo" f_Shelf_undo
  f_Shelf_trial : Addr
  d_Shelf_trial : FuncData
  F_Shelf_trial : L2.Fun K "trial" "Shelf.trial" s_Shelf_trial f_Shelf_trial d_Shelf_trial
  b_Shelf_trial : Binds K d_Shelf_trial p_Shelf_trial []
  t_Shelf_trial : Meth K C_Shelf "trial" f_Shelf_trial
  f_Shelf___len__ : Addr
  d_Shelf___len__ : FuncData
  F_Shelf___len__ : L2.Fun K "__len__" "Shelf.__len__" s_Shelf___len__ f_Shelf___len__ d_Shelf___len__
  b_Shelf___len__ : Binds K d_Shelf___len__ p_Shelf___len__ []
  t_Shelf___len__ : Meth K C_Shelf "__len__" f_Shelf___len__
  f_Shelf___repr__ : Addr
  d_Shelf___repr__ : FuncData
  F_Shelf___repr__ : L2.Fun K "__repr__" "Shelf.__repr__" s_Shelf___repr__ f_Shelf___repr__ d_Shelf___repr__
  b_Shelf___repr__ : Binds K d_Shelf___repr__ p_Shelf___repr__ []
  t_Shelf___repr__ : Meth K C_Shelf "__repr__" f_Shelf___repr__
  f_is_integer : Addr
  d_is_integer : FuncData
  F_is_integer : L2.Fun K "is_integer" "is_integer" s_is_integer f_is_integer d_is_integer
  b_is_integer : Binds K d_is_integer p_is_integer []
  m_is_integer : mg "is_integer" = some (.ref f_is_integer)
  f_is_text : Addr
  d_is_text : FuncData
  F_is_text : L2.Fun K "is_text" "is_text" s_is_text f_is_text d_is_text
  b_is_text : Binds K d_is_text p_is_text []
  m_is_text : mg "is_text" = some (.ref f_is_text)
  f_check_text : Addr
  d_check_text : FuncData
  F_check_text : L2.Fun K "check_text" "check_text" s_check_text f_check_text d_check_text
  b_check_text : Binds K d_check_text p_check_text []
  m_check_text : mg "check_text" = some (.ref f_check_text)
  f_check_namer : Addr
  d_check_namer : FuncData
  F_check_namer : L2.Fun K "check_namer" "check_namer" s_check_namer f_check_namer d_check_namer
  b_check_namer : Binds K d_check_namer p_check_namer []
  m_check_namer : mg "check_namer" = some (.ref f_check_namer)
  f_check_deeds : Addr
  d_check_deeds : FuncData
  F_check_deeds : L2.Fun K "check_deeds" "check_deeds" s_check_deeds f_check_deeds d_check_deeds
  b_check_deeds : Binds K d_check_deeds p_check_deeds []
  m_check_deeds : mg "check_deeds" = some (.ref f_check_deeds)
  f__law_source : Addr
  d__law_source : FuncData
  F__law_source : L2.Fun K "_law_source" "_law_source" s__law_source f__law_source d__law_source
  b__law_source : Binds K d__law_source p__law_source []
  m__law_source : mg "_law_source" = some (.ref f__law_source)
  f__law_draw : Addr
  d__law_draw : FuncData
  F__law_draw : L2.Fun K "_law_draw" "_law_draw" s__law_draw f__law_draw d__law_draw
  b__law_draw : Binds K d__law_draw p__law_draw []
  m__law_draw : mg "_law_draw" = some (.ref f__law_draw)
  f__law_one : Addr
  d__law_one : FuncData
  F__law_one : L2.Fun K "_law_one" "_law_one" s__law_one f__law_one d__law_one
  b__law_one : Binds K d__law_one p__law_one []
  m__law_one : mg "_law_one" = some (.ref f__law_one)
  f__law_stem : Addr
  d__law_stem : FuncData
  F__law_stem : L2.Fun K "_law_stem" "_law_stem" s__law_stem f__law_stem d__law_stem
  b__law_stem : Binds K d__law_stem p__law_stem []
  m__law_stem : mg "_law_stem" = some (.ref f__law_stem)
  f__law_word : Addr
  d__law_word : FuncData
  F__law_word : L2.Fun K "_law_word" "_law_word" s__law_word f__law_word d__law_word
  b__law_word : Binds K d__law_word p__law_word []
  m__law_word : mg "_law_word" = some (.ref f__law_word)
  f__law_numbered : Addr
  d__law_numbered : FuncData
  F__law_numbered : L2.Fun K "_law_numbered" "_law_numbered" s__law_numbered f__law_numbered d__law_numbered
  b__law_numbered : Binds K d__law_numbered p__law_numbered []
  m__law_numbered : mg "_law_numbered" = some (.ref f__law_numbered)
  f__law_name : Addr
  d__law_name : FuncData
  F__law_name : L2.Fun K "_law_name" "_law_name" s__law_name f__law_name d__law_name
  b__law_name : Binds K d__law_name p__law_name []
  m__law_name : mg "_law_name" = some (.ref f__law_name)
  f__law_refusal : Addr
  d__law_refusal : FuncData
  F__law_refusal : L2.Fun K "_law_refusal" "_law_refusal" s__law_refusal f__law_refusal d__law_refusal
  b__law_refusal : Binds K d__law_refusal p__law_refusal []
  m__law_refusal : mg "_law_refusal" = some (.ref f__law_refusal)
  f__law_tried : Addr
  d__law_tried : FuncData
  F__law_tried : L2.Fun K "_law_tried" "_law_tried" s__law_tried f__law_tried d__law_tried
  b__law_tried : Binds K d__law_tried p__law_tried []
  m__law_tried : mg "_law_tried" = some (.ref f__law_tried)
  f__law_is : Addr
  d__law_is : FuncData
  F__law_is : L2.Fun K "_law_is" "_law_is" s__law_is f__law_is d__law_is
  b__law_is : Binds K d__law_is p__law_is []
  m__law_is : mg "_law_is" = some (.ref f__law_is)
  f__law_added : Addr
  d__law_added : FuncData
  F__law_added : L2.Fun K "_law_added" "_law_added" s__law_added f__law_added d__law_added
  b__law_added : Binds K d__law_added p__law_added []
  m__law_added : mg "_law_added" = some (.ref f__law_added)
  f__law_removed : Addr
  d__law_removed : FuncData
  F__law_removed : L2.Fun K "_law_removed" "_law_removed" s__law_removed f__law_removed d__law_removed
  b__law_removed : Binds K d__law_removed p__law_removed []
  m__law_removed : mg "_law_removed" = some (.ref f__law_removed)
  f__law_shelf_is : Addr
  d__law_shelf_is : FuncData
  F__law_shelf_is : L2.Fun K "_law_shelf_is" "_law_shelf_is" s__law_shelf_is f__law_shelf_is d__law_shelf_is
  b__law_shelf_is : Binds K d__law_shelf_is p__law_shelf_is []
  m__law_shelf_is : mg "_law_shelf_is" = some (.ref f__law_shelf_is)
  f__law_added_right : Addr
  d__law_added_right : FuncData
  F__law_added_right : L2.Fun K "_law_added_right" "_law_added_right" s__law_added_right f__law_added_right d__law_added_right
  b__law_added_right : Binds K d__law_added_right p__law_added_right []
  m__law_added_right : mg "_law_added_right" = some (.ref f__law_added_right)
  f__law_removed_right : Addr
  d__law_removed_right : FuncData
  F__law_removed_right : L2.Fun K "_law_removed_right" "_law_removed_right" s__law_removed_right f__law_removed_right d__law_removed_right
  b__law_removed_right : Binds K d__law_removed_right p__law_removed_right []
  m__law_removed_right : mg "_law_removed_right" = some (.ref f__law_removed_right)
  f__law_step : Addr
  d__law_step : FuncData
  F__law_step : L2.Fun K "_law_step" "_law_step" s__law_step f__law_step d__law_step
  b__law_step : Binds K d__law_step p__law_step []
  m__law_step : mg "_law_step" = some (.ref f__law_step)
  f_law : Addr
  d_law : FuncData
  F_law : L2.Fun K "law" "law" s_law f_law d_law
  b_law : Binds K d_law p_law []
  m_law : mg "law" = some (.ref f_law)
  cc__law_added_right : Addr
  PP__law_added_right : Addr
  cq__law_added_right : d__law_added_right.code = .ref cc__law_added_right
  hd__law_added_right : PySem.W.codeHdIn K cc__law_added_right PP__law_added_right = true
  np__law_added_right : K.lookup PP__law_added_right = none
  ps__law_added_right : (PP__law_added_right == sysModules) = false
  cc__law_removed_right : Addr
  PP__law_removed_right : Addr
  cq__law_removed_right : d__law_removed_right.code = .ref cc__law_removed_right
  hd__law_removed_right : PySem.W.codeHdIn K cc__law_removed_right PP__law_removed_right = true
  np__law_removed_right : K.lookup PP__law_removed_right = none
  ps__law_removed_right : (PP__law_removed_right == sysModules) = false
  pd__law_removed_right__law_added_right : (PP__law_removed_right == PP__law_added_right) = false
  cc__law_step : Addr
  PP__law_step : Addr
  cq__law_step : d__law_step.code = .ref cc__law_step
  hd__law_step : PySem.W.codeHdIn K cc__law_step PP__law_step = true
  np__law_step : K.lookup PP__law_step = none
  ps__law_step : (PP__law_step == sysModules) = false
  pd__law_step__law_added_right : (PP__law_step == PP__law_added_right) = false
  pd__law_step__law_removed_right : (PP__law_step == PP__law_removed_right) = false
  cc_law : Addr
  PP_law : Addr
  cq_law : d_law.code = .ref cc_law
  hd_law : PySem.W.codeHdIn K cc_law PP_law = true
  np_law : K.lookup PP_law = none
  ps_law : (PP_law == sysModules) = false
  pd_law__law_added_right : (PP_law == PP__law_added_right) = false
  pd_law__law_removed_right : (PP_law == PP__law_removed_right) = false
  pd_law__law_step : (PP_law == PP__law_step) = false
set_option maxHeartbeats 16000000 in
theorem all_mk {K : PySem.W.Frag} {h : Heap} {mg : Str → Option Value} (X : K.In h) (G : h.Ns mainGlobals mg)
    {cc_law PP_law : Addr}
    {cc__law_step PP__law_step : Addr}
    {cc__law_removed_right PP__law_removed_right : Addr}
    {cc__law_added_right PP__law_added_right : Addr}
    {f_law : Addr} {oc_law kV_law dc_law pm_law cd_law ct_law : Value} {od_law an_law : Option Addr} {sl_law : Array (Option Value)}
    {f__law_step : Addr} {oc__law_step kV__law_step dc__law_step pm__law_step cd__law_step ct__law_step : Value} {od__law_step an__law_step : Option Addr} {sl__law_step : Array (Option Value)}
    {f__law_removed_right : Addr} {oc__law_removed_right kV__law_removed_right dc__law_removed_right pm__law_removed_right cd__law_removed_right ct__law_removed_right : Value} {od__law_removed_right an__law_removed_right : Option Addr} {sl__law_removed_right : Array (Option Value)}
    {f__law_added_right : Addr} {oc__law_added_right kV__law_added_right dc__law_added_right pm__law_added_right cd__law_added_right ct__law_added_right : Value} {od__law_added_right an__law_added_right : Option Addr} {sl__law_added_right : Array (Option Value)}
    {f__law_shelf_is : Addr} {oc__law_shelf_is kV__law_shelf_is dc__law_shelf_is pm__law_shelf_is cd__law_shelf_is ct__law_shelf_is : Value} {od__law_shelf_is an__law_shelf_is : Option Addr} {sl__law_shelf_is : Array (Option Value)}
    {f__law_removed : Addr} {oc__law_removed kV__law_removed dc__law_removed pm__law_removed cd__law_removed ct__law_removed : Value} {od__law_removed an__law_removed : Option Addr} {sl__law_removed : Array (Option Value)}
    {f__law_added : Addr} {oc__law_added kV__law_added dc__law_added pm__law_added cd__law_added ct__law_added : Value} {od__law_added an__law_added : Option Addr} {sl__law_added : Array (Option Value)}
    {f__law_is : Addr} {oc__law_is kV__law_is dc__law_is pm__law_is cd__law_is ct__law_is : Value} {od__law_is an__law_is : Option Addr} {sl__law_is : Array (Option Value)}
    {f__law_tried : Addr} {oc__law_tried kV__law_tried dc__law_tried pm__law_tried cd__law_tried ct__law_tried : Value} {od__law_tried an__law_tried : Option Addr} {sl__law_tried : Array (Option Value)}
    {f__law_refusal : Addr} {oc__law_refusal kV__law_refusal dc__law_refusal pm__law_refusal cd__law_refusal ct__law_refusal : Value} {od__law_refusal an__law_refusal : Option Addr} {sl__law_refusal : Array (Option Value)}
    {f__law_name : Addr} {oc__law_name kV__law_name dc__law_name pm__law_name cd__law_name ct__law_name : Value} {od__law_name an__law_name : Option Addr} {sl__law_name : Array (Option Value)}
    {f__law_numbered : Addr} {oc__law_numbered kV__law_numbered dc__law_numbered pm__law_numbered cd__law_numbered ct__law_numbered : Value} {od__law_numbered an__law_numbered : Option Addr} {sl__law_numbered : Array (Option Value)}
    {f__law_word : Addr} {oc__law_word kV__law_word dc__law_word pm__law_word cd__law_word ct__law_word : Value} {od__law_word an__law_word : Option Addr} {sl__law_word : Array (Option Value)}
    {f__law_stem : Addr} {oc__law_stem kV__law_stem dc__law_stem pm__law_stem cd__law_stem ct__law_stem : Value} {od__law_stem an__law_stem : Option Addr} {sl__law_stem : Array (Option Value)}
    {f__law_one : Addr} {oc__law_one kV__law_one dc__law_one pm__law_one cd__law_one ct__law_one : Value} {od__law_one an__law_one : Option Addr} {sl__law_one : Array (Option Value)}
    {f__law_draw : Addr} {oc__law_draw kV__law_draw dc__law_draw pm__law_draw cd__law_draw ct__law_draw : Value} {od__law_draw an__law_draw : Option Addr} {sl__law_draw : Array (Option Value)}
    {f__law_source : Addr} {oc__law_source kV__law_source dc__law_source pm__law_source cd__law_source ct__law_source : Value} {od__law_source an__law_source : Option Addr} {sl__law_source : Array (Option Value)}
    {f_check_deeds : Addr} {oc_check_deeds kV_check_deeds dc_check_deeds pm_check_deeds cd_check_deeds ct_check_deeds : Value} {od_check_deeds an_check_deeds : Option Addr} {sl_check_deeds : Array (Option Value)}
    {f_check_namer : Addr} {oc_check_namer kV_check_namer dc_check_namer pm_check_namer cd_check_namer ct_check_namer : Value} {od_check_namer an_check_namer : Option Addr} {sl_check_namer : Array (Option Value)}
    {f_check_text : Addr} {oc_check_text kV_check_text dc_check_text pm_check_text cd_check_text ct_check_text : Value} {od_check_text an_check_text : Option Addr} {sl_check_text : Array (Option Value)}
    {f_is_text : Addr} {oc_is_text kV_is_text dc_is_text pm_is_text cd_is_text ct_is_text : Value} {od_is_text an_is_text : Option Addr} {sl_is_text : Array (Option Value)}
    {f_is_integer : Addr} {oc_is_integer kV_is_integer dc_is_integer pm_is_integer cd_is_integer ct_is_integer : Value} {od_is_integer an_is_integer : Option Addr} {sl_is_integer : Array (Option Value)}
    {f_Shelf___repr__ : Addr} {oc_Shelf___repr__ kV_Shelf___repr__ dc_Shelf___repr__ pm_Shelf___repr__ cd_Shelf___repr__ ct_Shelf___repr__ : Value} {od_Shelf___repr__ an_Shelf___repr__ : Option Addr} {sl_Shelf___repr__ : Array (Option Value)}
    {f_Shelf___len__ : Addr} {oc_Shelf___len__ kV_Shelf___len__ dc_Shelf___len__ pm_Shelf___len__ cd_Shelf___len__ ct_Shelf___len__ : Value} {od_Shelf___len__ an_Shelf___len__ : Option Addr} {sl_Shelf___len__ : Array (Option Value)}
    {f_Shelf_trial : Addr} {oc_Shelf_trial kV_Shelf_trial dc_Shelf_trial pm_Shelf_trial cd_Shelf_trial ct_Shelf_trial : Value} {od_Shelf_trial an_Shelf_trial : Option Addr} {sl_Shelf_trial : Array (Option Value)}
    {f_Shelf_undo : Addr} {oc_Shelf_undo kV_Shelf_undo dc_Shelf_undo pm_Shelf_undo cd_Shelf_undo ct_Shelf_undo : Value} {od_Shelf_undo an_Shelf_undo : Option Addr} {sl_Shelf_undo : Array (Option Value)}
    {f_Shelf_remove : Addr} {oc_Shelf_remove kV_Shelf_remove dc_Shelf_remove pm_Shelf_remove cd_Shelf_remove ct_Shelf_remove : Value} {od_Shelf_remove an_Shelf_remove : Option Addr} {sl_Shelf_remove : Array (Option Value)}
    {f_Shelf_add : Addr} {oc_Shelf_add kV_Shelf_add dc_Shelf_add pm_Shelf_add cd_Shelf_add ct_Shelf_add : Value} {od_Shelf_add an_Shelf_add : Option Addr} {sl_Shelf_add : Array (Option Value)}
    {f_Shelf_let_go : Addr} {oc_Shelf_let_go kV_Shelf_let_go dc_Shelf_let_go pm_Shelf_let_go cd_Shelf_let_go ct_Shelf_let_go : Value} {od_Shelf_let_go an_Shelf_let_go : Option Addr} {sl_Shelf_let_go : Array (Option Value)}
    {f_Shelf_let_come : Addr} {oc_Shelf_let_come kV_Shelf_let_come dc_Shelf_let_come pm_Shelf_let_come cd_Shelf_let_come ct_Shelf_let_come : Value} {od_Shelf_let_come an_Shelf_let_come : Option Addr} {sl_Shelf_let_come : Array (Option Value)}
    {f_Shelf_check_idle : Addr} {oc_Shelf_check_idle kV_Shelf_check_idle dc_Shelf_check_idle pm_Shelf_check_idle cd_Shelf_check_idle ct_Shelf_check_idle : Value} {od_Shelf_check_idle an_Shelf_check_idle : Option Addr} {sl_Shelf_check_idle : Array (Option Value)}
    {f_Shelf_change : Addr} {oc_Shelf_change kV_Shelf_change dc_Shelf_change pm_Shelf_change cd_Shelf_change ct_Shelf_change : Value} {od_Shelf_change an_Shelf_change : Option Addr} {sl_Shelf_change : Array (Option Value)}
    {f_Shelf_settle : Addr} {oc_Shelf_settle kV_Shelf_settle dc_Shelf_settle pm_Shelf_settle cd_Shelf_settle ct_Shelf_settle : Value} {od_Shelf_settle an_Shelf_settle : Option Addr} {sl_Shelf_settle : Array (Option Value)}
    {f_Shelf___init__ : Addr} {oc_Shelf___init__ kV_Shelf___init__ dc_Shelf___init__ pm_Shelf___init__ cd_Shelf___init__ ct_Shelf___init__ : Value} {od_Shelf___init__ an_Shelf___init__ : Option Addr} {sl_Shelf___init__ : Array (Option Value)}
    {C_Shelf : Addr}
    {f_Namer___repr__ : Addr} {oc_Namer___repr__ kV_Namer___repr__ dc_Namer___repr__ pm_Namer___repr__ cd_Namer___repr__ ct_Namer___repr__ : Value} {od_Namer___repr__ an_Namer___repr__ : Option Addr} {sl_Namer___repr__ : Array (Option Value)}
    {f_Namer___eq__ : Addr} {oc_Namer___eq__ kV_Namer___eq__ dc_Namer___eq__ pm_Namer___eq__ cd_Namer___eq__ ct_Namer___eq__ : Value} {od_Namer___eq__ an_Namer___eq__ : Option Addr} {sl_Namer___eq__ : Array (Option Value)}
    {f_Namer_name_for : Addr} {oc_Namer_name_for kV_Namer_name_for dc_Namer_name_for pm_Namer_name_for cd_Namer_name_for ct_Namer_name_for : Value} {od_Namer_name_for an_Namer_name_for : Option Addr} {sl_Namer_name_for : Array (Option Value)}
    {f_Namer_numbered : Addr} {oc_Namer_numbered kV_Namer_numbered dc_Namer_numbered pm_Namer_numbered cd_Namer_numbered ct_Namer_numbered : Value} {od_Namer_numbered an_Namer_numbered : Option Addr} {sl_Namer_numbered : Array (Option Value)}
    {f_Namer_base_of : Addr} {oc_Namer_base_of kV_Namer_base_of dc_Namer_base_of pm_Namer_base_of cd_Namer_base_of ct_Namer_base_of : Value} {od_Namer_base_of an_Namer_base_of : Option Addr} {sl_Namer_base_of : Array (Option Value)}
    {f_Namer___init__ : Addr} {oc_Namer___init__ kV_Namer___init__ dc_Namer___init__ pm_Namer___init__ cd_Namer___init__ ct_Namer___init__ : Value} {od_Namer___init__ an_Namer___init__ : Option Addr} {sl_Namer___init__ : Array (Option Value)}
    {C_Namer : Addr}
    {f_TooMany___init__ : Addr} {oc_TooMany___init__ kV_TooMany___init__ dc_TooMany___init__ pm_TooMany___init__ cd_TooMany___init__ ct_TooMany___init__ : Value} {od_TooMany___init__ an_TooMany___init__ : Option Addr} {sl_TooMany___init__ : Array (Option Value)}
    {nm_TooMany q_TooMany : Str} {N_TooMany : Addr} {bs_TooMany bm_TooMany sub_TooMany : List Value} {sn_TooMany : List Str} {ab_TooMany : Bool} {col_TooMany : Option Bool} {dd_TooMany : Option Addr} {e0_TooMany e1_TooMany e2_TooMany e3_TooMany e5_TooMany : Option Value}
    {f_UnknownName___init__ : Addr} {oc_UnknownName___init__ kV_UnknownName___init__ dc_UnknownName___init__ pm_UnknownName___init__ cd_UnknownName___init__ ct_UnknownName___init__ : Value} {od_UnknownName___init__ an_UnknownName___init__ : Option Addr} {sl_UnknownName___init__ : Array (Option Value)}
    {nm_UnknownName q_UnknownName : Str} {N_UnknownName : Addr} {bs_UnknownName bm_UnknownName sub_UnknownName : List Value} {sn_UnknownName : List Str} {ab_UnknownName : Bool} {col_UnknownName : Option Bool} {dd_UnknownName : Option Addr} {e0_UnknownName e1_UnknownName e2_UnknownName e3_UnknownName e5_UnknownName : Option Value}
    {f_InvalidDeeds___init__ : Addr} {oc_InvalidDeeds___init__ kV_InvalidDeeds___init__ dc_InvalidDeeds___init__ pm_InvalidDeeds___init__ cd_InvalidDeeds___init__ ct_InvalidDeeds___init__ : Value} {od_InvalidDeeds___init__ an_InvalidDeeds___init__ : Option Addr} {sl_InvalidDeeds___init__ : Array (Option Value)}
    {nm_InvalidDeeds q_InvalidDeeds : Str} {N_InvalidDeeds : Addr} {bs_InvalidDeeds bm_InvalidDeeds sub_InvalidDeeds : List Value} {sn_InvalidDeeds : List Str} {ab_InvalidDeeds : Bool} {col_InvalidDeeds : Option Bool} {dd_InvalidDeeds : Option Addr} {e0_InvalidDeeds e1_InvalidDeeds e2_InvalidDeeds e3_InvalidDeeds e5_InvalidDeeds : Option Value}
    {f_NotANamer___init__ : Addr} {oc_NotANamer___init__ kV_NotANamer___init__ dc_NotANamer___init__ pm_NotANamer___init__ cd_NotANamer___init__ ct_NotANamer___init__ : Value} {od_NotANamer___init__ an_NotANamer___init__ : Option Addr} {sl_NotANamer___init__ : Array (Option Value)}
    {nm_NotANamer q_NotANamer : Str} {N_NotANamer : Addr} {bs_NotANamer bm_NotANamer sub_NotANamer : List Value} {sn_NotANamer : List Str} {ab_NotANamer : Bool} {col_NotANamer : Option Bool} {dd_NotANamer : Option Addr} {e0_NotANamer e1_NotANamer e2_NotANamer e3_NotANamer e5_NotANamer : Option Value}
    {f_InvalidWidth___init__ : Addr} {oc_InvalidWidth___init__ kV_InvalidWidth___init__ dc_InvalidWidth___init__ pm_InvalidWidth___init__ cd_InvalidWidth___init__ ct_InvalidWidth___init__ : Value} {od_InvalidWidth___init__ an_InvalidWidth___init__ : Option Addr} {sl_InvalidWidth___init__ : Array (Option Value)}
    {nm_InvalidWidth q_InvalidWidth : Str} {N_InvalidWidth : Addr} {bs_InvalidWidth bm_InvalidWidth sub_InvalidWidth : List Value} {sn_InvalidWidth : List Str} {ab_InvalidWidth : Bool} {col_InvalidWidth : Option Bool} {dd_InvalidWidth : Option Addr} {e0_InvalidWidth e1_InvalidWidth e2_InvalidWidth e3_InvalidWidth e5_InvalidWidth : Option Value}
    {f_InvalidRule___init__ : Addr} {oc_InvalidRule___init__ kV_InvalidRule___init__ dc_InvalidRule___init__ pm_InvalidRule___init__ cd_InvalidRule___init__ ct_InvalidRule___init__ : Value} {od_InvalidRule___init__ an_InvalidRule___init__ : Option Addr} {sl_InvalidRule___init__ : Array (Option Value)}
    {nm_InvalidRule q_InvalidRule : Str} {N_InvalidRule : Addr} {bs_InvalidRule bm_InvalidRule sub_InvalidRule : List Value} {sn_InvalidRule : List Str} {ab_InvalidRule : Bool} {col_InvalidRule : Option Bool} {dd_InvalidRule : Option Addr} {e0_InvalidRule e1_InvalidRule e2_InvalidRule e3_InvalidRule e5_InvalidRule : Option Value}
    {f_InvalidText___init__ : Addr} {oc_InvalidText___init__ kV_InvalidText___init__ dc_InvalidText___init__ pm_InvalidText___init__ cd_InvalidText___init__ ct_InvalidText___init__ : Value} {od_InvalidText___init__ an_InvalidText___init__ : Option Addr} {sl_InvalidText___init__ : Array (Option Value)}
    {nm_InvalidText q_InvalidText : Str} {N_InvalidText : Addr} {bs_InvalidText bm_InvalidText sub_InvalidText : List Value} {sn_InvalidText : List Str} {ab_InvalidText : Bool} {col_InvalidText : Option Bool} {dd_InvalidText : Option Addr} {e0_InvalidText e1_InvalidText e2_InvalidText e3_InvalidText e5_InvalidText : Option Value}
    {C_TooMany : Addr}
    {C_UnknownName : Addr}
    {C_Busy : Addr}
    {C_NothingToUndo : Addr}
    {C_InvalidDeeds : Addr}
    {C_InvalidTexts : Addr}
    {C_InvalidViews : Addr}
    {C_InvalidRow : Addr}
    {C_NotAShelf : Addr}
    {C_NotANamer : Addr}
    {C_InvalidLine : Addr}
    {C_InvalidPlace : Addr}
    {C_InvalidWidth : Addr}
    {C_InvalidRule : Addr}
    {C_InvalidLength : Addr}
    {C_InvalidText : Addr}
    {C_InvalidMark : Addr}
    {C_InvalidNumber : Addr}
    {C_SizeError : Addr}
    {C_StateError : Addr}
    {C_InputError : Addr}
    {ad_DEEDS : Addr} {od_DEEDS : Option Addr} {nn_DEEDS : Nat} {sl_DEEDS : Array (Option Value)} {tk_DEEDS_0 tk_DEEDS_1 : Tok}
    {tk_FIRST_NUMBER : Tok}
    {tk_LEAST_WIDTH : Tok}
    {ad_RULES : Addr} {od_RULES : Option Addr} {nn_RULES : Nat} {sl_RULES : Array (Option Value)} {tk_RULES_0 tk_RULES_1 tk_RULES_2 : Tok}
    {tk_SIGNS : Tok}
    {tk_MOST_SHELVED : Tok}
    {tk_MOST_TEXT : Tok}
    {tk_MOST_SIGNS : Tok}
    (x_n_ArithmeticError : PySem.W.nsIn K mainGlobals "ArithmeticError" = some none)
    (x_n_LookupError : PySem.W.nsIn K mainGlobals "LookupError" = some none)
    (x_n_ValueError : PySem.W.nsIn K mainGlobals "ValueError" = some none)
    (x_n_abs : PySem.W.nsIn K mainGlobals "abs" = some none)
    (x_n_all : PySem.W.nsIn K mainGlobals "all" = some none)
    (x_n_bool : PySem.W.nsIn K mainGlobals "bool" = some none)
    (x_n_divmod : PySem.W.nsIn K mainGlobals "divmod" = some none)
    (x_n_enumerate : PySem.W.nsIn K mainGlobals "enumerate" = some none)
    (x_n_int : PySem.W.nsIn K mainGlobals "int" = some none)
    (x_n_isinstance : PySem.W.nsIn K mainGlobals "isinstance" = some none)
    (x_n_len : PySem.W.nsIn K mainGlobals "len" = some none)
    (x_n_max : PySem.W.nsIn K mainGlobals "max" = some none)
    (x_n_min : PySem.W.nsIn K mainGlobals "min" = some none)
    (x_n_range : PySem.W.nsIn K mainGlobals "range" = some none)
    (x_n_repr : PySem.W.nsIn K mainGlobals "repr" = some none)
    (x_n_str : PySem.W.nsIn K mainGlobals "str" = some none)
    (x_n_tuple : PySem.W.nsIn K mainGlobals "tuple" = some none)
    (x_k_MOST_SIGNS : PySem.W.nsIn K mainGlobals "MOST_SIGNS" = some (some (.int 40 tk_MOST_SIGNS)))
    (x_k_MOST_TEXT : PySem.W.nsIn K mainGlobals "MOST_TEXT" = some (some (.int 200 tk_MOST_TEXT)))
    (x_k_MOST_SHELVED : PySem.W.nsIn K mainGlobals "MOST_SHELVED" = some (some (.int 20 tk_MOST_SHELVED)))
    (x_k_SIGNS : PySem.W.nsIn K mainGlobals "SIGNS" = some (some (.str (PySem.Str.ofString ".0123456789abcdefghijklmnopqrstuvwxyz~") tk_SIGNS)))
    (x_m_RULES : PySem.W.nsIn K mainGlobals "RULES" = some (some (.ref ad_RULES)))
    (x_q_RULES : K.lookup ad_RULES = some ⟨.type "tuple", od_RULES, .seq #[.str (PySem.Str.ofString "count") tk_RULES_0, .str (PySem.Str.ofString "free") tk_RULES_1, .str (PySem.Str.ofString "tight") tk_RULES_2] nn_RULES, sl_RULES⟩)
    (x_k_LEAST_WIDTH : PySem.W.nsIn K mainGlobals "LEAST_WIDTH" = some (some (.int 6 tk_LEAST_WIDTH)))
    (x_k_FIRST_NUMBER : PySem.W.nsIn K mainGlobals "FIRST_NUMBER" = some (some (.int 2 tk_FIRST_NUMBER)))
    (x_m_DEEDS : PySem.W.nsIn K mainGlobals "DEEDS" = some (some (.ref ad_DEEDS)))
    (x_q_DEEDS : K.lookup ad_DEEDS = some ⟨.type "tuple", od_DEEDS, .seq #[.str (PySem.Str.ofString "add") tk_DEEDS_0, .str (PySem.Str.ofString "remove") tk_DEEDS_1] nn_DEEDS, sl_DEEDS⟩)
    (x_C_InputError : PySem.W.nsIn K mainGlobals "InputError" = some (some (.ref C_InputError)))
    (x_C_StateError : PySem.W.nsIn K mainGlobals "StateError" = some (some (.ref C_StateError)))
    (x_C_SizeError : PySem.W.nsIn K mainGlobals "SizeError" = some (some (.ref C_SizeError)))
    (x_C_InvalidNumber : PySem.W.nsIn K mainGlobals "InvalidNumber" = some (some (.ref C_InvalidNumber)))
    (x_C_InvalidMark : PySem.W.nsIn K mainGlobals "InvalidMark" = some (some (.ref C_InvalidMark)))
    (x_C_InvalidText : PySem.W.nsIn K mainGlobals "InvalidText" = some (some (.ref C_InvalidText)))
    (x_C_InvalidLength : PySem.W.nsIn K mainGlobals "InvalidLength" = some (some (.ref C_InvalidLength)))
    (x_C_InvalidRule : PySem.W.nsIn K mainGlobals "InvalidRule" = some (some (.ref C_InvalidRule)))
    (x_C_InvalidWidth : PySem.W.nsIn K mainGlobals "InvalidWidth" = some (some (.ref C_InvalidWidth)))
    (x_C_InvalidPlace : PySem.W.nsIn K mainGlobals "InvalidPlace" = some (some (.ref C_InvalidPlace)))
    (x_C_InvalidLine : PySem.W.nsIn K mainGlobals "InvalidLine" = some (some (.ref C_InvalidLine)))
    (x_C_NotANamer : PySem.W.nsIn K mainGlobals "NotANamer" = some (some (.ref C_NotANamer)))
    (x_C_NotAShelf : PySem.W.nsIn K mainGlobals "NotAShelf" = some (some (.ref C_NotAShelf)))
    (x_C_InvalidRow : PySem.W.nsIn K mainGlobals "InvalidRow" = some (some (.ref C_InvalidRow)))
    (x_C_InvalidViews : PySem.W.nsIn K mainGlobals "InvalidViews" = some (some (.ref C_InvalidViews)))
    (x_C_InvalidTexts : PySem.W.nsIn K mainGlobals "InvalidTexts" = some (some (.ref C_InvalidTexts)))
    (x_C_InvalidDeeds : PySem.W.nsIn K mainGlobals "InvalidDeeds" = some (some (.ref C_InvalidDeeds)))
    (x_C_NothingToUndo : PySem.W.nsIn K mainGlobals "NothingToUndo" = some (some (.ref C_NothingToUndo)))
    (x_C_Busy : PySem.W.nsIn K mainGlobals "Busy" = some (some (.ref C_Busy)))
    (x_C_UnknownName : PySem.W.nsIn K mainGlobals "UnknownName" = some (some (.ref C_UnknownName)))
    (x_C_TooMany : PySem.W.nsIn K mainGlobals "TooMany" = some (some (.ref C_TooMany)))
    (x_L_InvalidText : K.lookup C_InvalidText = some (excClassObj nm_InvalidText q_InvalidText C_InvalidText N_InvalidText bs_InvalidText bm_InvalidText true sn_InvalidText sub_InvalidText ab_InvalidText col_InvalidText dd_InvalidText e0_InvalidText e1_InvalidText e2_InvalidText e3_InvalidText e5_InvalidText "ValueError.__new__"))
    (x_me_R_InvalidText : PySem.HandSPX.refsVE bm_InvalidText = true)
    (x_xs_InvalidText : PySem.W.findIn K (.ref C_InvalidText) "__setattr__" = some (some (.builtin "object.__setattr__")))
    (x_xe_InvalidText : PySem.W.subIn K (.ref C_InvalidText) (.type "BaseException") = some true)
    (x_xt_InvalidText : PySem.W.typeIn K (.ref C_InvalidText) = some (.type "type"))
    (x_xk_InvalidText : PySem.W.keepIn K (.ref C_InvalidText) = true)
    (x_na_InvalidText_value : PySem.W.findIn K (.ref C_InvalidText) "value" = some none)
    (x_a_InvalidText___init__ : PySem.W.findIn K (.ref C_InvalidText) "__init__" = some (some (.ref f_InvalidText___init__)))
    (x_j_InvalidText___init__ : PySem.W.typeIn K (.ref f_InvalidText___init__) = some (.type "function"))
    (x_i_InvalidText___init__ : PySem.W.isFn K (.ref f_InvalidText___init__) = true)
    (x_l_InvalidText___init__ : K.lookup f_InvalidText___init__ = some ⟨oc_InvalidText___init__, od_InvalidText___init__, .func (PySem.W.fnOf "__init__" "InvalidText.__init__" (L2.defArgs s_InvalidText___init__) (L2.defBody s_InvalidText___init__) (L2.defScope s_InvalidText___init__) .none kV_InvalidText___init__ dc_InvalidText___init__ pm_InvalidText___init__ an_InvalidText___init__ cd_InvalidText___init__ ct_InvalidText___init__), sl_InvalidText___init__⟩)
    (x_c_InvalidText___init__ : PySem.W.codeIn K cd_InvalidText___init__ "InvalidText.__init__" = true)
    (x_k_InvalidText___init__ : PySem.W.keepIn K (.ref f_InvalidText___init__) = true)
    (x_L_InvalidRule : K.lookup C_InvalidRule = some (excClassObj nm_InvalidRule q_InvalidRule C_InvalidRule N_InvalidRule bs_InvalidRule bm_InvalidRule true sn_InvalidRule sub_InvalidRule ab_InvalidRule col_InvalidRule dd_InvalidRule e0_InvalidRule e1_InvalidRule e2_InvalidRule e3_InvalidRule e5_InvalidRule "ValueError.__new__"))
    (x_me_R_InvalidRule : PySem.HandSPX.refsVE bm_InvalidRule = true)
    (x_xs_InvalidRule : PySem.W.findIn K (.ref C_InvalidRule) "__setattr__" = some (some (.builtin "object.__setattr__")))
    (x_xe_InvalidRule : PySem.W.subIn K (.ref C_InvalidRule) (.type "BaseException") = some true)
    (x_xt_InvalidRule : PySem.W.typeIn K (.ref C_InvalidRule) = some (.type "type"))
    (x_xk_InvalidRule : PySem.W.keepIn K (.ref C_InvalidRule) = true)
    (x_na_InvalidRule_value : PySem.W.findIn K (.ref C_InvalidRule) "value" = some none)
    (x_a_InvalidRule___init__ : PySem.W.findIn K (.ref C_InvalidRule) "__init__" = some (some (.ref f_InvalidRule___init__)))
    (x_j_InvalidRule___init__ : PySem.W.typeIn K (.ref f_InvalidRule___init__) = some (.type "function"))
    (x_i_InvalidRule___init__ : PySem.W.isFn K (.ref f_InvalidRule___init__) = true)
    (x_l_InvalidRule___init__ : K.lookup f_InvalidRule___init__ = some ⟨oc_InvalidRule___init__, od_InvalidRule___init__, .func (PySem.W.fnOf "__init__" "InvalidRule.__init__" (L2.defArgs s_InvalidRule___init__) (L2.defBody s_InvalidRule___init__) (L2.defScope s_InvalidRule___init__) .none kV_InvalidRule___init__ dc_InvalidRule___init__ pm_InvalidRule___init__ an_InvalidRule___init__ cd_InvalidRule___init__ ct_InvalidRule___init__), sl_InvalidRule___init__⟩)
    (x_c_InvalidRule___init__ : PySem.W.codeIn K cd_InvalidRule___init__ "InvalidRule.__init__" = true)
    (x_k_InvalidRule___init__ : PySem.W.keepIn K (.ref f_InvalidRule___init__) = true)
    (x_L_InvalidWidth : K.lookup C_InvalidWidth = some (excClassObj nm_InvalidWidth q_InvalidWidth C_InvalidWidth N_InvalidWidth bs_InvalidWidth bm_InvalidWidth true sn_InvalidWidth sub_InvalidWidth ab_InvalidWidth col_InvalidWidth dd_InvalidWidth e0_InvalidWidth e1_InvalidWidth e2_InvalidWidth e3_InvalidWidth e5_InvalidWidth "ValueError.__new__"))
    (x_me_R_InvalidWidth : PySem.HandSPX.refsVE bm_InvalidWidth = true)
    (x_xs_InvalidWidth : PySem.W.findIn K (.ref C_InvalidWidth) "__setattr__" = some (some (.builtin "object.__setattr__")))
    (x_xe_InvalidWidth : PySem.W.subIn K (.ref C_InvalidWidth) (.type "BaseException") = some true)
    (x_xt_InvalidWidth : PySem.W.typeIn K (.ref C_InvalidWidth) = some (.type "type"))
    (x_xk_InvalidWidth : PySem.W.keepIn K (.ref C_InvalidWidth) = true)
    (x_na_InvalidWidth_value : PySem.W.findIn K (.ref C_InvalidWidth) "value" = some none)
    (x_a_InvalidWidth___init__ : PySem.W.findIn K (.ref C_InvalidWidth) "__init__" = some (some (.ref f_InvalidWidth___init__)))
    (x_j_InvalidWidth___init__ : PySem.W.typeIn K (.ref f_InvalidWidth___init__) = some (.type "function"))
    (x_i_InvalidWidth___init__ : PySem.W.isFn K (.ref f_InvalidWidth___init__) = true)
    (x_l_InvalidWidth___init__ : K.lookup f_InvalidWidth___init__ = some ⟨oc_InvalidWidth___init__, od_InvalidWidth___init__, .func (PySem.W.fnOf "__init__" "InvalidWidth.__init__" (L2.defArgs s_InvalidWidth___init__) (L2.defBody s_InvalidWidth___init__) (L2.defScope s_InvalidWidth___init__) .none kV_InvalidWidth___init__ dc_InvalidWidth___init__ pm_InvalidWidth___init__ an_InvalidWidth___init__ cd_InvalidWidth___init__ ct_InvalidWidth___init__), sl_InvalidWidth___init__⟩)
    (x_c_InvalidWidth___init__ : PySem.W.codeIn K cd_InvalidWidth___init__ "InvalidWidth.__init__" = true)
    (x_k_InvalidWidth___init__ : PySem.W.keepIn K (.ref f_InvalidWidth___init__) = true)
    (x_L_NotANamer : K.lookup C_NotANamer = some (excClassObj nm_NotANamer q_NotANamer C_NotANamer N_NotANamer bs_NotANamer bm_NotANamer true sn_NotANamer sub_NotANamer ab_NotANamer col_NotANamer dd_NotANamer e0_NotANamer e1_NotANamer e2_NotANamer e3_NotANamer e5_NotANamer "ValueError.__new__"))
    (x_me_R_NotANamer : PySem.HandSPX.refsVE bm_NotANamer = true)
    (x_xs_NotANamer : PySem.W.findIn K (.ref C_NotANamer) "__setattr__" = some (some (.builtin "object.__setattr__")))
    (x_xe_NotANamer : PySem.W.subIn K (.ref C_NotANamer) (.type "BaseException") = some true)
    (x_xt_NotANamer : PySem.W.typeIn K (.ref C_NotANamer) = some (.type "type"))
    (x_xk_NotANamer : PySem.W.keepIn K (.ref C_NotANamer) = true)
    (x_na_NotANamer_value : PySem.W.findIn K (.ref C_NotANamer) "value" = some none)
    (x_a_NotANamer___init__ : PySem.W.findIn K (.ref C_NotANamer) "__init__" = some (some (.ref f_NotANamer___init__)))
    (x_j_NotANamer___init__ : PySem.W.typeIn K (.ref f_NotANamer___init__) = some (.type "function"))
    (x_i_NotANamer___init__ : PySem.W.isFn K (.ref f_NotANamer___init__) = true)
    (x_l_NotANamer___init__ : K.lookup f_NotANamer___init__ = some ⟨oc_NotANamer___init__, od_NotANamer___init__, .func (PySem.W.fnOf "__init__" "NotANamer.__init__" (L2.defArgs s_NotANamer___init__) (L2.defBody s_NotANamer___init__) (L2.defScope s_NotANamer___init__) .none kV_NotANamer___init__ dc_NotANamer___init__ pm_NotANamer___init__ an_NotANamer___init__ cd_NotANamer___init__ ct_NotANamer___init__), sl_NotANamer___init__⟩)
    (x_c_NotANamer___init__ : PySem.W.codeIn K cd_NotANamer___init__ "NotANamer.__init__" = true)
    (x_k_NotANamer___init__ : PySem.W.keepIn K (.ref f_NotANamer___init__) = true)
    (x_L_InvalidDeeds : K.lookup C_InvalidDeeds = some (excClassObj nm_InvalidDeeds q_InvalidDeeds C_InvalidDeeds N_InvalidDeeds bs_InvalidDeeds bm_InvalidDeeds true sn_InvalidDeeds sub_InvalidDeeds ab_InvalidDeeds col_InvalidDeeds dd_InvalidDeeds e0_InvalidDeeds e1_InvalidDeeds e2_InvalidDeeds e3_InvalidDeeds e5_InvalidDeeds "ValueError.__new__"))
    (x_me_R_InvalidDeeds : PySem.HandSPX.refsVE bm_InvalidDeeds = true)
    (x_xs_InvalidDeeds : PySem.W.findIn K (.ref C_InvalidDeeds) "__setattr__" = some (some (.builtin "object.__setattr__")))
    (x_xe_InvalidDeeds : PySem.W.subIn K (.ref C_InvalidDeeds) (.type "BaseException") = some true)
    (x_xt_InvalidDeeds : PySem.W.typeIn K (.ref C_InvalidDeeds) = some (.type "type"))
    (x_xk_InvalidDeeds : PySem.W.keepIn K (.ref C_InvalidDeeds) = true)
    (x_na_InvalidDeeds_index : PySem.W.findIn K (.ref C_InvalidDeeds) "index" = some none)
    (x_a_InvalidDeeds___init__ : PySem.W.findIn K (.ref C_InvalidDeeds) "__init__" = some (some (.ref f_InvalidDeeds___init__)))
    (x_j_InvalidDeeds___init__ : PySem.W.typeIn K (.ref f_InvalidDeeds___init__) = some (.type "function"))
    (x_i_InvalidDeeds___init__ : PySem.W.isFn K (.ref f_InvalidDeeds___init__) = true)
    (x_l_InvalidDeeds___init__ : K.lookup f_InvalidDeeds___init__ = some ⟨oc_InvalidDeeds___init__, od_InvalidDeeds___init__, .func (PySem.W.fnOf "__init__" "InvalidDeeds.__init__" (L2.defArgs s_InvalidDeeds___init__) (L2.defBody s_InvalidDeeds___init__) (L2.defScope s_InvalidDeeds___init__) .none kV_InvalidDeeds___init__ dc_InvalidDeeds___init__ pm_InvalidDeeds___init__ an_InvalidDeeds___init__ cd_InvalidDeeds___init__ ct_InvalidDeeds___init__), sl_InvalidDeeds___init__⟩)
    (x_c_InvalidDeeds___init__ : PySem.W.codeIn K cd_InvalidDeeds___init__ "InvalidDeeds.__init__" = true)
    (x_k_InvalidDeeds___init__ : PySem.W.keepIn K (.ref f_InvalidDeeds___init__) = true)
    (x_L_UnknownName : K.lookup C_UnknownName = some (excClassObj nm_UnknownName q_UnknownName C_UnknownName N_UnknownName bs_UnknownName bm_UnknownName true sn_UnknownName sub_UnknownName ab_UnknownName col_UnknownName dd_UnknownName e0_UnknownName e1_UnknownName e2_UnknownName e3_UnknownName e5_UnknownName "LookupError.__new__"))
    (x_me_R_UnknownName : V.refsB V.tlLookup bm_UnknownName = true)
    (x_xs_UnknownName : PySem.W.findIn K (.ref C_UnknownName) "__setattr__" = some (some (.builtin "object.__setattr__")))
    (x_xe_UnknownName : PySem.W.subIn K (.ref C_UnknownName) (.type "BaseException") = some true)
    (x_xt_UnknownName : PySem.W.typeIn K (.ref C_UnknownName) = some (.type "type"))
    (x_xk_UnknownName : PySem.W.keepIn K (.ref C_UnknownName) = true)
    (x_na_UnknownName_value : PySem.W.findIn K (.ref C_UnknownName) "value" = some none)
    (x_a_UnknownName___init__ : PySem.W.findIn K (.ref C_UnknownName) "__init__" = some (some (.ref f_UnknownName___init__)))
    (x_j_UnknownName___init__ : PySem.W.typeIn K (.ref f_UnknownName___init__) = some (.type "function"))
    (x_i_UnknownName___init__ : PySem.W.isFn K (.ref f_UnknownName___init__) = true)
    (x_l_UnknownName___init__ : K.lookup f_UnknownName___init__ = some ⟨oc_UnknownName___init__, od_UnknownName___init__, .func (PySem.W.fnOf "__init__" "UnknownName.__init__" (L2.defArgs s_UnknownName___init__) (L2.defBody s_UnknownName___init__) (L2.defScope s_UnknownName___init__) .none kV_UnknownName___init__ dc_UnknownName___init__ pm_UnknownName___init__ an_UnknownName___init__ cd_UnknownName___init__ ct_UnknownName___init__), sl_UnknownName___init__⟩)
    (x_c_UnknownName___init__ : PySem.W.codeIn K cd_UnknownName___init__ "UnknownName.__init__" = true)
    (x_k_UnknownName___init__ : PySem.W.keepIn K (.ref f_UnknownName___init__) = true)
    (x_L_TooMany : K.lookup C_TooMany = some (excClassObj nm_TooMany q_TooMany C_TooMany N_TooMany bs_TooMany bm_TooMany true sn_TooMany sub_TooMany ab_TooMany col_TooMany dd_TooMany e0_TooMany e1_TooMany e2_TooMany e3_TooMany e5_TooMany "ArithmeticError.__new__"))
    (x_me_R_TooMany : V.refsB V.tlArith bm_TooMany = true)
    (x_xs_TooMany : PySem.W.findIn K (.ref C_TooMany) "__setattr__" = some (some (.builtin "object.__setattr__")))
    (x_xe_TooMany : PySem.W.subIn K (.ref C_TooMany) (.type "BaseException") = some true)
    (x_xt_TooMany : PySem.W.typeIn K (.ref C_TooMany) = some (.type "type"))
    (x_xk_TooMany : PySem.W.keepIn K (.ref C_TooMany) = true)
    (x_na_TooMany_limit : PySem.W.findIn K (.ref C_TooMany) "limit" = some none)
    (x_a_TooMany___init__ : PySem.W.findIn K (.ref C_TooMany) "__init__" = some (some (.ref f_TooMany___init__)))
    (x_j_TooMany___init__ : PySem.W.typeIn K (.ref f_TooMany___init__) = some (.type "function"))
    (x_i_TooMany___init__ : PySem.W.isFn K (.ref f_TooMany___init__) = true)
    (x_l_TooMany___init__ : K.lookup f_TooMany___init__ = some ⟨oc_TooMany___init__, od_TooMany___init__, .func (PySem.W.fnOf "__init__" "TooMany.__init__" (L2.defArgs s_TooMany___init__) (L2.defBody s_TooMany___init__) (L2.defScope s_TooMany___init__) .none kV_TooMany___init__ dc_TooMany___init__ pm_TooMany___init__ an_TooMany___init__ cd_TooMany___init__ ct_TooMany___init__), sl_TooMany___init__⟩)
    (x_c_TooMany___init__ : PySem.W.codeIn K cd_TooMany___init__ "TooMany.__init__" = true)
    (x_k_TooMany___init__ : PySem.W.keepIn K (.ref f_TooMany___init__) = true)
    (x_me_q_Busy : PySem.W.excIn K C_Busy V.tlLookup "LookupError.__new__" = true)
    (x_kq_Busy : PySem.W.keepIn K (.ref C_Busy) = true)
    (x_bq_Busy : PySem.W.subIn K (.ref C_Busy) (.type "BaseException") = some true)
    (x_tq_Busy : PySem.W.typeIn K (.ref C_Busy) = some (.type "type"))
    (x_me_q_NothingToUndo : PySem.W.excIn K C_NothingToUndo V.tlLookup "LookupError.__new__" = true)
    (x_kq_NothingToUndo : PySem.W.keepIn K (.ref C_NothingToUndo) = true)
    (x_bq_NothingToUndo : PySem.W.subIn K (.ref C_NothingToUndo) (.type "BaseException") = some true)
    (x_tq_NothingToUndo : PySem.W.typeIn K (.ref C_NothingToUndo) = some (.type "type"))
    (x_ga_InvalidText : PySem.W.findIn K (.ref C_InvalidText) "__getattribute__" = some (some (.builtin "BaseException.__getattribute__")))
    (x_gg_InvalidText : PySem.W.findIn K (.ref C_InvalidText) "__getattr__" = some none)
    (x_xd_InvalidText : PySem.W.hasDictIn K C_InvalidText = true)
    (x_xa_InvalidText : PySem.W.findIn K (.ref C_InvalidText) "__class__" = some (some (.builtin "object.__class__")))
    (x_xn_InvalidText : PySem.W.specialIn K (.builtin "object.__class__") "__get__" = some (some (.builtin "getset_descriptor.__get__")))
    (x_xq_InvalidText : PySem.W.takesIn K (.builtin "object.__class__") = some true)
    (x_xm_InvalidText : PySem.W.mroIn K C_InvalidText (.type "object") = some true)
    (x_me_kr_InvalidText_0 : PySem.W.kitOne K (.ref C_InvalidText) (.ref C_InvalidNumber) = some false)
    (x_me_kr_InvalidText_1 : PySem.W.kitOne K (.ref C_InvalidText) (.ref C_InvalidMark) = some false)
    (x_me_kr_InvalidText_2 : PySem.W.kitOne K (.ref C_InvalidText) (.ref C_InvalidText) = some true)
    (x_me_kr_InvalidText_3 : PySem.W.kitOne K (.ref C_InvalidText) (.ref C_InvalidLength) = some false)
    (x_me_kr_InvalidText_4 : PySem.W.kitOne K (.ref C_InvalidText) (.ref C_InvalidRule) = some false)
    (x_me_kr_InvalidText_5 : PySem.W.kitOne K (.ref C_InvalidText) (.ref C_InvalidWidth) = some false)
    (x_me_kr_InvalidText_6 : PySem.W.kitOne K (.ref C_InvalidText) (.ref C_InvalidPlace) = some false)
    (x_me_kr_InvalidText_7 : PySem.W.kitOne K (.ref C_InvalidText) (.ref C_InvalidLine) = some false)
    (x_me_kr_InvalidText_8 : PySem.W.kitOne K (.ref C_InvalidText) (.ref C_NotANamer) = some false)
    (x_me_kr_InvalidText_9 : PySem.W.kitOne K (.ref C_InvalidText) (.ref C_NotAShelf) = some false)
    (x_me_kr_InvalidText_10 : PySem.W.kitOne K (.ref C_InvalidText) (.ref C_InvalidRow) = some false)
    (x_me_kr_InvalidText_11 : PySem.W.kitOne K (.ref C_InvalidText) (.ref C_InvalidViews) = some false)
    (x_me_kr_InvalidText_12 : PySem.W.kitOne K (.ref C_InvalidText) (.ref C_InvalidTexts) = some false)
    (x_me_kr_InvalidText_13 : PySem.W.kitOne K (.ref C_InvalidText) (.ref C_InvalidDeeds) = some false)
    (x_me_kr_InvalidText_14 : PySem.W.kitOne K (.ref C_InvalidText) (.ref C_NothingToUndo) = some false)
    (x_me_kr_InvalidText_15 : PySem.W.kitOne K (.ref C_InvalidText) (.ref C_Busy) = some false)
    (x_me_kr_InvalidText_16 : PySem.W.kitOne K (.ref C_InvalidText) (.ref C_UnknownName) = some false)
    (x_me_kr_InvalidText_17 : PySem.W.kitOne K (.ref C_InvalidText) (.ref C_TooMany) = some false)
    (x_me_kr_InvalidText_18 : PySem.W.kitOne K (.ref C_InvalidText) (.ref C_InputError) = some true)
    (x_me_kr_InvalidText_19 : PySem.W.kitOne K (.ref C_InvalidText) (.ref C_StateError) = some false)
    (x_me_kr_InvalidText_20 : PySem.W.kitOne K (.ref C_InvalidText) (.ref C_SizeError) = some false)
    (x_me_kr_InvalidText_21 : PySem.W.kitOne K (.ref C_InvalidText) (.type "ValueError") = some true)
    (x_me_kr_InvalidText_22 : PySem.W.kitOne K (.ref C_InvalidText) (.type "LookupError") = some false)
    (x_me_kr_InvalidText_23 : PySem.W.kitOne K (.ref C_InvalidText) (.type "ArithmeticError") = some false)
    (x_ga_TooMany : PySem.W.findIn K (.ref C_TooMany) "__getattribute__" = some (some (.builtin "BaseException.__getattribute__")))
    (x_gg_TooMany : PySem.W.findIn K (.ref C_TooMany) "__getattr__" = some none)
    (x_xd_TooMany : PySem.W.hasDictIn K C_TooMany = true)
    (x_xa_TooMany : PySem.W.findIn K (.ref C_TooMany) "__class__" = some (some (.builtin "object.__class__")))
    (x_xn_TooMany : PySem.W.specialIn K (.builtin "object.__class__") "__get__" = some (some (.builtin "getset_descriptor.__get__")))
    (x_xq_TooMany : PySem.W.takesIn K (.builtin "object.__class__") = some true)
    (x_xm_TooMany : PySem.W.mroIn K C_TooMany (.type "object") = some true)
    (x_me_kr_TooMany_0 : PySem.W.kitOne K (.ref C_TooMany) (.ref C_InvalidNumber) = some false)
    (x_me_kr_TooMany_1 : PySem.W.kitOne K (.ref C_TooMany) (.ref C_InvalidMark) = some false)
    (x_me_kr_TooMany_2 : PySem.W.kitOne K (.ref C_TooMany) (.ref C_InvalidText) = some false)
    (x_me_kr_TooMany_3 : PySem.W.kitOne K (.ref C_TooMany) (.ref C_InvalidLength) = some false)
    (x_me_kr_TooMany_4 : PySem.W.kitOne K (.ref C_TooMany) (.ref C_InvalidRule) = some false)
    (x_me_kr_TooMany_5 : PySem.W.kitOne K (.ref C_TooMany) (.ref C_InvalidWidth) = some false)
    (x_me_kr_TooMany_6 : PySem.W.kitOne K (.ref C_TooMany) (.ref C_InvalidPlace) = some false)
    (x_me_kr_TooMany_7 : PySem.W.kitOne K (.ref C_TooMany) (.ref C_InvalidLine) = some false)
    (x_me_kr_TooMany_8 : PySem.W.kitOne K (.ref C_TooMany) (.ref C_NotANamer) = some false)
    (x_me_kr_TooMany_9 : PySem.W.kitOne K (.ref C_TooMany) (.ref C_NotAShelf) = some false)
    (x_me_kr_TooMany_10 : PySem.W.kitOne K (.ref C_TooMany) (.ref C_InvalidRow) = some false)
    (x_me_kr_TooMany_11 : PySem.W.kitOne K (.ref C_TooMany) (.ref C_InvalidViews) = some false)
    (x_me_kr_TooMany_12 : PySem.W.kitOne K (.ref C_TooMany) (.ref C_InvalidTexts) = some false)
    (x_me_kr_TooMany_13 : PySem.W.kitOne K (.ref C_TooMany) (.ref C_InvalidDeeds) = some false)
    (x_me_kr_TooMany_14 : PySem.W.kitOne K (.ref C_TooMany) (.ref C_NothingToUndo) = some false)
    (x_me_kr_TooMany_15 : PySem.W.kitOne K (.ref C_TooMany) (.ref C_Busy) = some false)
    (x_me_kr_TooMany_16 : PySem.W.kitOne K (.ref C_TooMany) (.ref C_UnknownName) = some false)
    (x_me_kr_TooMany_17 : PySem.W.kitOne K (.ref C_TooMany) (.ref C_TooMany) = some true)
    (x_me_kr_TooMany_18 : PySem.W.kitOne K (.ref C_TooMany) (.ref C_InputError) = some false)
    (x_me_kr_TooMany_19 : PySem.W.kitOne K (.ref C_TooMany) (.ref C_StateError) = some false)
    (x_me_kr_TooMany_20 : PySem.W.kitOne K (.ref C_TooMany) (.ref C_SizeError) = some true)
    (x_me_kr_TooMany_21 : PySem.W.kitOne K (.ref C_TooMany) (.type "ValueError") = some false)
    (x_me_kr_TooMany_22 : PySem.W.kitOne K (.ref C_TooMany) (.type "LookupError") = some false)
    (x_me_kr_TooMany_23 : PySem.W.kitOne K (.ref C_TooMany) (.type "ArithmeticError") = some true)
    (x_ga_UnknownName : PySem.W.findIn K (.ref C_UnknownName) "__getattribute__" = some (some (.builtin "BaseException.__getattribute__")))
    (x_gg_UnknownName : PySem.W.findIn K (.ref C_UnknownName) "__getattr__" = some none)
    (x_xd_UnknownName : PySem.W.hasDictIn K C_UnknownName = true)
    (x_xa_UnknownName : PySem.W.findIn K (.ref C_UnknownName) "__class__" = some (some (.builtin "object.__class__")))
    (x_xn_UnknownName : PySem.W.specialIn K (.builtin "object.__class__") "__get__" = some (some (.builtin "getset_descriptor.__get__")))
    (x_xq_UnknownName : PySem.W.takesIn K (.builtin "object.__class__") = some true)
    (x_xm_UnknownName : PySem.W.mroIn K C_UnknownName (.type "object") = some true)
    (x_me_kr_UnknownName_0 : PySem.W.kitOne K (.ref C_UnknownName) (.ref C_InvalidNumber) = some false)
    (x_me_kr_UnknownName_1 : PySem.W.kitOne K (.ref C_UnknownName) (.ref C_InvalidMark) = some false)
    (x_me_kr_UnknownName_2 : PySem.W.kitOne K (.ref C_UnknownName) (.ref C_InvalidText) = some false)
    (x_me_kr_UnknownName_3 : PySem.W.kitOne K (.ref C_UnknownName) (.ref C_InvalidLength) = some false)
    (x_me_kr_UnknownName_4 : PySem.W.kitOne K (.ref C_UnknownName) (.ref C_InvalidRule) = some false)
    (x_me_kr_UnknownName_5 : PySem.W.kitOne K (.ref C_UnknownName) (.ref C_InvalidWidth) = some false)
    (x_me_kr_UnknownName_6 : PySem.W.kitOne K (.ref C_UnknownName) (.ref C_InvalidPlace) = some false)
    (x_me_kr_UnknownName_7 : PySem.W.kitOne K (.ref C_UnknownName) (.ref C_InvalidLine) = some false)
    (x_me_kr_UnknownName_8 : PySem.W.kitOne K (.ref C_UnknownName) (.ref C_NotANamer) = some false)
    (x_me_kr_UnknownName_9 : PySem.W.kitOne K (.ref C_UnknownName) (.ref C_NotAShelf) = some false)
    (x_me_kr_UnknownName_10 : PySem.W.kitOne K (.ref C_UnknownName) (.ref C_InvalidRow) = some false)
    (x_me_kr_UnknownName_11 : PySem.W.kitOne K (.ref C_UnknownName) (.ref C_InvalidViews) = some false)
    (x_me_kr_UnknownName_12 : PySem.W.kitOne K (.ref C_UnknownName) (.ref C_InvalidTexts) = some false)
    (x_me_kr_UnknownName_13 : PySem.W.kitOne K (.ref C_UnknownName) (.ref C_InvalidDeeds) = some false)
    (x_me_kr_UnknownName_14 : PySem.W.kitOne K (.ref C_UnknownName) (.ref C_NothingToUndo) = some false)
    (x_me_kr_UnknownName_15 : PySem.W.kitOne K (.ref C_UnknownName) (.ref C_Busy) = some false)
    (x_me_kr_UnknownName_16 : PySem.W.kitOne K (.ref C_UnknownName) (.ref C_UnknownName) = some true)
    (x_me_kr_UnknownName_17 : PySem.W.kitOne K (.ref C_UnknownName) (.ref C_TooMany) = some false)
    (x_me_kr_UnknownName_18 : PySem.W.kitOne K (.ref C_UnknownName) (.ref C_InputError) = some false)
    (x_me_kr_UnknownName_19 : PySem.W.kitOne K (.ref C_UnknownName) (.ref C_StateError) = some true)
    (x_me_kr_UnknownName_20 : PySem.W.kitOne K (.ref C_UnknownName) (.ref C_SizeError) = some false)
    (x_me_kr_UnknownName_21 : PySem.W.kitOne K (.ref C_UnknownName) (.type "ValueError") = some false)
    (x_me_kr_UnknownName_22 : PySem.W.kitOne K (.ref C_UnknownName) (.type "LookupError") = some true)
    (x_me_kr_UnknownName_23 : PySem.W.kitOne K (.ref C_UnknownName) (.type "ArithmeticError") = some false)
    (x_ga_NothingToUndo : PySem.W.findIn K (.ref C_NothingToUndo) "__getattribute__" = some (some (.builtin "BaseException.__getattribute__")))
    (x_gg_NothingToUndo : PySem.W.findIn K (.ref C_NothingToUndo) "__getattr__" = some none)
    (x_xd_NothingToUndo : PySem.W.hasDictIn K C_NothingToUndo = true)
    (x_xa_NothingToUndo : PySem.W.findIn K (.ref C_NothingToUndo) "__class__" = some (some (.builtin "object.__class__")))
    (x_xn_NothingToUndo : PySem.W.specialIn K (.builtin "object.__class__") "__get__" = some (some (.builtin "getset_descriptor.__get__")))
    (x_xq_NothingToUndo : PySem.W.takesIn K (.builtin "object.__class__") = some true)
    (x_xm_NothingToUndo : PySem.W.mroIn K C_NothingToUndo (.type "object") = some true)
    (x_xe_NothingToUndo : PySem.W.subIn K (.ref C_NothingToUndo) (.type "BaseException") = some true)
    (x_me_kr_NothingToUndo_0 : PySem.W.kitOne K (.ref C_NothingToUndo) (.ref C_InvalidNumber) = some false)
    (x_me_kr_NothingToUndo_1 : PySem.W.kitOne K (.ref C_NothingToUndo) (.ref C_InvalidMark) = some false)
    (x_me_kr_NothingToUndo_2 : PySem.W.kitOne K (.ref C_NothingToUndo) (.ref C_InvalidText) = some false)
    (x_me_kr_NothingToUndo_3 : PySem.W.kitOne K (.ref C_NothingToUndo) (.ref C_InvalidLength) = some false)
    (x_me_kr_NothingToUndo_4 : PySem.W.kitOne K (.ref C_NothingToUndo) (.ref C_InvalidRule) = some false)
    (x_me_kr_NothingToUndo_5 : PySem.W.kitOne K (.ref C_NothingToUndo) (.ref C_InvalidWidth) = some false)
    (x_me_kr_NothingToUndo_6 : PySem.W.kitOne K (.ref C_NothingToUndo) (.ref C_InvalidPlace) = some false)
    (x_me_kr_NothingToUndo_7 : PySem.W.kitOne K (.ref C_NothingToUndo) (.ref C_InvalidLine) = some false)
    (x_me_kr_NothingToUndo_8 : PySem.W.kitOne K (.ref C_NothingToUndo) (.ref C_NotANamer) = some false)
    (x_me_kr_NothingToUndo_9 : PySem.W.kitOne K (.ref C_NothingToUndo) (.ref C_NotAShelf) = some false)
    (x_me_kr_NothingToUndo_10 : PySem.W.kitOne K (.ref C_NothingToUndo) (.ref C_InvalidRow) = some false)
    (x_me_kr_NothingToUndo_11 : PySem.W.kitOne K (.ref C_NothingToUndo) (.ref C_InvalidViews) = some false)
    (x_me_kr_NothingToUndo_12 : PySem.W.kitOne K (.ref C_NothingToUndo) (.ref C_InvalidTexts) = some false)
    (x_me_kr_NothingToUndo_13 : PySem.W.kitOne K (.ref C_NothingToUndo) (.ref C_InvalidDeeds) = some false)
    (x_me_kr_NothingToUndo_14 : PySem.W.kitOne K (.ref C_NothingToUndo) (.ref C_NothingToUndo) = some true)
    (x_me_kr_NothingToUndo_15 : PySem.W.kitOne K (.ref C_NothingToUndo) (.ref C_Busy) = some false)
    (x_me_kr_NothingToUndo_16 : PySem.W.kitOne K (.ref C_NothingToUndo) (.ref C_UnknownName) = some false)
    (x_me_kr_NothingToUndo_17 : PySem.W.kitOne K (.ref C_NothingToUndo) (.ref C_TooMany) = some false)
    (x_me_kr_NothingToUndo_18 : PySem.W.kitOne K (.ref C_NothingToUndo) (.ref C_InputError) = some false)
    (x_me_kr_NothingToUndo_19 : PySem.W.kitOne K (.ref C_NothingToUndo) (.ref C_StateError) = some true)
    (x_me_kr_NothingToUndo_20 : PySem.W.kitOne K (.ref C_NothingToUndo) (.ref C_SizeError) = some false)
    (x_me_kr_NothingToUndo_21 : PySem.W.kitOne K (.ref C_NothingToUndo) (.type "ValueError") = some false)
    (x_me_kr_NothingToUndo_22 : PySem.W.kitOne K (.ref C_NothingToUndo) (.type "LookupError") = some true)
    (x_me_kr_NothingToUndo_23 : PySem.W.kitOne K (.ref C_NothingToUndo) (.type "ArithmeticError") = some false)
    (x_me_eh_InvalidText_InputError : PySem.W.exmOne K (.ref C_InvalidText) (.ref C_InputError) = some true)
    (x_me_eh_NothingToUndo_InputError : PySem.W.exmOne K (.ref C_NothingToUndo) (.ref C_InputError) = some false)
    (x_me_eh_UnknownName_InputError : PySem.W.exmOne K (.ref C_UnknownName) (.ref C_InputError) = some false)
    (x_me_eh_TooMany_InputError : PySem.W.exmOne K (.ref C_TooMany) (.ref C_InputError) = some false)
    (x_me_eh_InvalidText_SizeError : PySem.W.exmOne K (.ref C_InvalidText) (.ref C_SizeError) = some false)
    (x_me_eh_NothingToUndo_SizeError : PySem.W.exmOne K (.ref C_NothingToUndo) (.ref C_SizeError) = some false)
    (x_me_eh_UnknownName_SizeError : PySem.W.exmOne K (.ref C_UnknownName) (.ref C_SizeError) = some false)
    (x_me_eh_TooMany_SizeError : PySem.W.exmOne K (.ref C_TooMany) (.ref C_SizeError) = some true)
    (x_me_eh_InvalidText_StateError : PySem.W.exmOne K (.ref C_InvalidText) (.ref C_StateError) = some false)
    (x_me_eh_NothingToUndo_StateError : PySem.W.exmOne K (.ref C_NothingToUndo) (.ref C_StateError) = some true)
    (x_me_eh_UnknownName_StateError : PySem.W.exmOne K (.ref C_UnknownName) (.ref C_StateError) = some true)
    (x_me_eh_TooMany_StateError : PySem.W.exmOne K (.ref C_TooMany) (.ref C_StateError) = some false)
    (x_C_Namer : PySem.W.nsIn K mainGlobals "Namer" = some (some (.ref C_Namer)))
    (x_pg_Namer : PySem.W.plainGet K C_Namer Str.empty = true)
    (x_hd_Namer : PySem.W.hasDictIn K C_Namer = true)
    (x_po_Namer : PySem.W.plainOver K C_Namer = true)
    (x_sa_Namer : PySem.W.findIn K (.ref C_Namer) "__setattr__" = some (some (.builtin "object.__setattr__")))
    (x_mk_Namer : PySem.W.makesIn K C_Namer = true)
    (x_kc_Namer : PySem.W.keepIn K (.ref C_Namer) = true)
    (x_ha_Namer : PySem.W.findIn K (.ref C_Namer) "__class__" = some (some (.builtin "object.__class__")))
    (x_hn_Namer : PySem.W.specialIn K (.builtin "object.__class__") "__get__" = some (some (.builtin "getset_descriptor.__get__")))
    (x_ht_Namer : PySem.W.takesIn K (.builtin "object.__class__") = some true)
    (x_hm_Namer : PySem.W.mroIn K C_Namer (.type "object") = some true)
    (x_me_Namer : PySem.W.kitOne K (.ref C_Namer) (.ref C_Namer) = some true)
    (x_na_Namer_rule : PySem.W.findIn K (.ref C_Namer) "rule" = some none)
    (x_na_Namer_width : PySem.W.findIn K (.ref C_Namer) "width" = some none)
    (x_ne_Namer : PySem.W.findIn K (.ref C_Namer) "__ne__" = some (some (.builtin "object.__ne__")))
    (x_non_Namer : PySem.W.subIn K (.type "NoneType") (.ref C_Namer) = some false)
    (x_nos_Namer : PySem.W.subIn K (.type "str") (.ref C_Namer) = some false)
    (x_not_Namer : PySem.W.subIn K (.type "tuple") (.ref C_Namer) = some false)
    (x_noi_Namer : PySem.W.subIn K (.type "int") (.ref C_Namer) = some false)
    (x_nol_Namer : PySem.W.subIn K (.type "list") (.ref C_Namer) = some false)
    (x_me_kn_Namer : PySem.W.kitOne K (.type "NoneType") (.ref C_Namer) = some false)
    (x_me_ks_Namer : PySem.W.kitOne K (.type "str") (.ref C_Namer) = some false)
    (x_me_ktt_Namer : PySem.W.kitOne K (.type "tuple") (.ref C_Namer) = some false)
    (x_me_kt_Namer_NoneType : PySem.W.kitOne K (.type "NoneType") (.ref C_Namer) = some false)
    (x_me_kt_Namer_bool : PySem.W.kitOne K (.type "bool") (.ref C_Namer) = some false)
    (x_me_kt_Namer_int : PySem.W.kitOne K (.type "int") (.ref C_Namer) = some false)
    (x_me_kt_Namer_str : PySem.W.kitOne K (.type "str") (.ref C_Namer) = some false)
    (x_me_kt_Namer_list : PySem.W.kitOne K (.type "list") (.ref C_Namer) = some false)
    (x_me_kt_Namer_tuple : PySem.W.kitOne K (.type "tuple") (.ref C_Namer) = some false)
    (x_me_kt_Namer_dict : PySem.W.kitOne K (.type "dict") (.ref C_Namer) = some false)
    (x_me_kx_Namer_int : PySem.W.kitOne K (.ref C_Namer) (.type "int") = some false)
    (x_me_kx_Namer_bool : PySem.W.kitOne K (.ref C_Namer) (.type "bool") = some false)
    (x_me_kx_Namer_str : PySem.W.kitOne K (.ref C_Namer) (.type "str") = some false)
    (x_me_kx_Namer_list : PySem.W.kitOne K (.ref C_Namer) (.type "list") = some false)
    (x_me_kx_Namer_tuple : PySem.W.kitOne K (.ref C_Namer) (.type "tuple") = some false)
    (x_me_kx_Namer_dict : PySem.W.kitOne K (.ref C_Namer) (.type "dict") = some false)
    (x_a_Namer___init__ : PySem.W.findIn K (.ref C_Namer) "__init__" = some (some (.ref f_Namer___init__)))
    (x_i_Namer___init__ : PySem.W.isFn K (.ref f_Namer___init__) = true)
    (x_l_Namer___init__ : K.lookup f_Namer___init__ = some ⟨oc_Namer___init__, od_Namer___init__, .func (PySem.W.fnOf "__init__" "Namer.__init__" (L2.defArgs s_Namer___init__) (L2.defBody s_Namer___init__) (L2.defScope s_Namer___init__) .none kV_Namer___init__ dc_Namer___init__ pm_Namer___init__ an_Namer___init__ cd_Namer___init__ ct_Namer___init__), sl_Namer___init__⟩)
    (x_c_Namer___init__ : PySem.W.codeIn K cd_Namer___init__ "Namer.__init__" = true)
    (x_k_Namer___init__ : PySem.W.keepIn K (.ref f_Namer___init__) = true)
    (x_a_Namer_base_of : PySem.W.findIn K (.ref C_Namer) "base_of" = some (some (.ref f_Namer_base_of)))
    (x_i_Namer_base_of : PySem.W.isFn K (.ref f_Namer_base_of) = true)
    (x_l_Namer_base_of : K.lookup f_Namer_base_of = some ⟨oc_Namer_base_of, od_Namer_base_of, .func (PySem.W.fnOf "base_of" "Namer.base_of" (L2.defArgs s_Namer_base_of) (L2.defBody s_Namer_base_of) (L2.defScope s_Namer_base_of) .none kV_Namer_base_of dc_Namer_base_of pm_Namer_base_of an_Namer_base_of cd_Namer_base_of ct_Namer_base_of), sl_Namer_base_of⟩)
    (x_c_Namer_base_of : PySem.W.codeIn K cd_Namer_base_of "Namer.base_of" = true)
    (x_k_Namer_base_of : PySem.W.keepIn K (.ref f_Namer_base_of) = true)
    (x_a_Namer_numbered : PySem.W.findIn K (.ref C_Namer) "numbered" = some (some (.ref f_Namer_numbered)))
    (x_i_Namer_numbered : PySem.W.isFn K (.ref f_Namer_numbered) = true)
    (x_l_Namer_numbered : K.lookup f_Namer_numbered = some ⟨oc_Namer_numbered, od_Namer_numbered, .func (PySem.W.fnOf "numbered" "Namer.numbered" (L2.defArgs s_Namer_numbered) (L2.defBody s_Namer_numbered) (L2.defScope s_Namer_numbered) .none kV_Namer_numbered dc_Namer_numbered pm_Namer_numbered an_Namer_numbered cd_Namer_numbered ct_Namer_numbered), sl_Namer_numbered⟩)
    (x_c_Namer_numbered : PySem.W.codeIn K cd_Namer_numbered "Namer.numbered" = true)
    (x_k_Namer_numbered : PySem.W.keepIn K (.ref f_Namer_numbered) = true)
    (x_a_Namer_name_for : PySem.W.findIn K (.ref C_Namer) "name_for" = some (some (.ref f_Namer_name_for)))
    (x_i_Namer_name_for : PySem.W.isFn K (.ref f_Namer_name_for) = true)
    (x_l_Namer_name_for : K.lookup f_Namer_name_for = some ⟨oc_Namer_name_for, od_Namer_name_for, .func (PySem.W.fnOf "name_for" "Namer.name_for" (L2.defArgs s_Namer_name_for) (L2.defBody s_Namer_name_for) (L2.defScope s_Namer_name_for) .none kV_Namer_name_for dc_Namer_name_for pm_Namer_name_for an_Namer_name_for cd_Namer_name_for ct_Namer_name_for), sl_Namer_name_for⟩)
    (x_c_Namer_name_for : PySem.W.codeIn K cd_Namer_name_for "Namer.name_for" = true)
    (x_k_Namer_name_for : PySem.W.keepIn K (.ref f_Namer_name_for) = true)
    (x_a_Namer___eq__ : PySem.W.findIn K (.ref C_Namer) "__eq__" = some (some (.ref f_Namer___eq__)))
    (x_i_Namer___eq__ : PySem.W.isFn K (.ref f_Namer___eq__) = true)
    (x_l_Namer___eq__ : K.lookup f_Namer___eq__ = some ⟨oc_Namer___eq__, od_Namer___eq__, .func (PySem.W.fnOf "__eq__" "Namer.__eq__" (L2.defArgs s_Namer___eq__) (L2.defBody s_Namer___eq__) (L2.defScope s_Namer___eq__) .none kV_Namer___eq__ dc_Namer___eq__ pm_Namer___eq__ an_Namer___eq__ cd_Namer___eq__ ct_Namer___eq__), sl_Namer___eq__⟩)
    (x_c_Namer___eq__ : PySem.W.codeIn K cd_Namer___eq__ "Namer.__eq__" = true)
    (x_k_Namer___eq__ : PySem.W.keepIn K (.ref f_Namer___eq__) = true)
    (x_a_Namer___repr__ : PySem.W.findIn K (.ref C_Namer) "__repr__" = some (some (.ref f_Namer___repr__)))
    (x_i_Namer___repr__ : PySem.W.isFn K (.ref f_Namer___repr__) = true)
    (x_l_Namer___repr__ : K.lookup f_Namer___repr__ = some ⟨oc_Namer___repr__, od_Namer___repr__, .func (PySem.W.fnOf "__repr__" "Namer.__repr__" (L2.defArgs s_Namer___repr__) (L2.defBody s_Namer___repr__) (L2.defScope s_Namer___repr__) .none kV_Namer___repr__ dc_Namer___repr__ pm_Namer___repr__ an_Namer___repr__ cd_Namer___repr__ ct_Namer___repr__), sl_Namer___repr__⟩)
    (x_c_Namer___repr__ : PySem.W.codeIn K cd_Namer___repr__ "Namer.__repr__" = true)
    (x_k_Namer___repr__ : PySem.W.keepIn K (.ref f_Namer___repr__) = true)
    (x_C_Shelf : PySem.W.nsIn K mainGlobals "Shelf" = some (some (.ref C_Shelf)))
    (x_pg_Shelf : PySem.W.plainGet K C_Shelf Str.empty = true)
    (x_hd_Shelf : PySem.W.hasDictIn K C_Shelf = true)
    (x_po_Shelf : PySem.W.plainOver K C_Shelf = true)
    (x_sa_Shelf : PySem.W.findIn K (.ref C_Shelf) "__setattr__" = some (some (.builtin "object.__setattr__")))
    (x_mk_Shelf : PySem.W.makesIn K C_Shelf = true)
    (x_kc_Shelf : PySem.W.keepIn K (.ref C_Shelf) = true)
    (x_ha_Shelf : PySem.W.findIn K (.ref C_Shelf) "__class__" = some (some (.builtin "object.__class__")))
    (x_hn_Shelf : PySem.W.specialIn K (.builtin "object.__class__") "__get__" = some (some (.builtin "getset_descriptor.__get__")))
    (x_ht_Shelf : PySem.W.takesIn K (.builtin "object.__class__") = some true)
    (x_hm_Shelf : PySem.W.mroIn K C_Shelf (.type "object") = some true)
    (x_me_Shelf : PySem.W.kitOne K (.ref C_Shelf) (.ref C_Shelf) = some true)
    (x_na_Shelf_namer : PySem.W.findIn K (.ref C_Shelf) "namer" = some none)
    (x_na_Shelf_there : PySem.W.findIn K (.ref C_Shelf) "there" = some none)
    (x_na_Shelf_texts : PySem.W.findIn K (.ref C_Shelf) "texts" = some none)
    (x_na_Shelf_names : PySem.W.findIn K (.ref C_Shelf) "names" = some none)
    (x_na_Shelf_past : PySem.W.findIn K (.ref C_Shelf) "past" = some none)
    (x_na_Shelf_moment : PySem.W.findIn K (.ref C_Shelf) "moment" = some none)
    (x_na_Shelf_busy : PySem.W.findIn K (.ref C_Shelf) "busy" = some none)
    (x_nb_Shelf : PySem.W.findIn K (.ref C_Shelf) "__bool__" = some none)
    (x_me_kt_Shelf_NoneType : PySem.W.kitOne K (.type "NoneType") (.ref C_Shelf) = some false)
    (x_me_kt_Shelf_bool : PySem.W.kitOne K (.type "bool") (.ref C_Shelf) = some false)
    (x_me_kt_Shelf_int : PySem.W.kitOne K (.type "int") (.ref C_Shelf) = some false)
    (x_me_kt_Shelf_str : PySem.W.kitOne K (.type "str") (.ref C_Shelf) = some false)
    (x_me_kt_Shelf_list : PySem.W.kitOne K (.type "list") (.ref C_Shelf) = some false)
    (x_me_kt_Shelf_tuple : PySem.W.kitOne K (.type "tuple") (.ref C_Shelf) = some false)
    (x_me_kt_Shelf_dict : PySem.W.kitOne K (.type "dict") (.ref C_Shelf) = some false)
    (x_me_kx_Shelf_int : PySem.W.kitOne K (.ref C_Shelf) (.type "int") = some false)
    (x_me_kx_Shelf_bool : PySem.W.kitOne K (.ref C_Shelf) (.type "bool") = some false)
    (x_me_kx_Shelf_str : PySem.W.kitOne K (.ref C_Shelf) (.type "str") = some false)
    (x_me_kx_Shelf_list : PySem.W.kitOne K (.ref C_Shelf) (.type "list") = some false)
    (x_me_kx_Shelf_tuple : PySem.W.kitOne K (.ref C_Shelf) (.type "tuple") = some false)
    (x_me_kx_Shelf_dict : PySem.W.kitOne K (.ref C_Shelf) (.type "dict") = some false)
    (x_a_Shelf___init__ : PySem.W.findIn K (.ref C_Shelf) "__init__" = some (some (.ref f_Shelf___init__)))
    (x_i_Shelf___init__ : PySem.W.isFn K (.ref f_Shelf___init__) = true)
    (x_l_Shelf___init__ : K.lookup f_Shelf___init__ = some ⟨oc_Shelf___init__, od_Shelf___init__, .func (PySem.W.fnOf "__init__" "Shelf.__init__" (L2.defArgs s_Shelf___init__) (L2.defBody s_Shelf___init__) (L2.defScope s_Shelf___init__) .none kV_Shelf___init__ dc_Shelf___init__ pm_Shelf___init__ an_Shelf___init__ cd_Shelf___init__ ct_Shelf___init__), sl_Shelf___init__⟩)
    (x_c_Shelf___init__ : PySem.W.codeIn K cd_Shelf___init__ "Shelf.__init__" = true)
    (x_k_Shelf___init__ : PySem.W.keepIn K (.ref f_Shelf___init__) = true)
    (x_a_Shelf_settle : PySem.W.findIn K (.ref C_Shelf) "settle" = some (some (.ref f_Shelf_settle)))
    (x_i_Shelf_settle : PySem.W.isFn K (.ref f_Shelf_settle) = true)
    (x_l_Shelf_settle : K.lookup f_Shelf_settle = some ⟨oc_Shelf_settle, od_Shelf_settle, .func (PySem.W.fnOf "settle" "Shelf.settle" (L2.defArgs s_Shelf_settle) (L2.defBody s_Shelf_settle) (L2.defScope s_Shelf_settle) .none kV_Shelf_settle dc_Shelf_settle pm_Shelf_settle an_Shelf_settle cd_Shelf_settle ct_Shelf_settle), sl_Shelf_settle⟩)
    (x_c_Shelf_settle : PySem.W.codeIn K cd_Shelf_settle "Shelf.settle" = true)
    (x_k_Shelf_settle : PySem.W.keepIn K (.ref f_Shelf_settle) = true)
    (x_a_Shelf_change : PySem.W.findIn K (.ref C_Shelf) "change" = some (some (.ref f_Shelf_change)))
    (x_i_Shelf_change : PySem.W.isFn K (.ref f_Shelf_change) = true)
    (x_l_Shelf_change : K.lookup f_Shelf_change = some ⟨oc_Shelf_change, od_Shelf_change, .func (PySem.W.fnOf "change" "Shelf.change" (L2.defArgs s_Shelf_change) (L2.defBody s_Shelf_change) (L2.defScope s_Shelf_change) .none kV_Shelf_change dc_Shelf_change pm_Shelf_change an_Shelf_change cd_Shelf_change ct_Shelf_change), sl_Shelf_change⟩)
    (x_c_Shelf_change : PySem.W.codeIn K cd_Shelf_change "Shelf.change" = true)
    (x_k_Shelf_change : PySem.W.keepIn K (.ref f_Shelf_change) = true)
    (x_a_Shelf_check_idle : PySem.W.findIn K (.ref C_Shelf) "check_idle" = some (some (.ref f_Shelf_check_idle)))
    (x_i_Shelf_check_idle : PySem.W.isFn K (.ref f_Shelf_check_idle) = true)
    (x_l_Shelf_check_idle : K.lookup f_Shelf_check_idle = some ⟨oc_Shelf_check_idle, od_Shelf_check_idle, .func (PySem.W.fnOf "check_idle" "Shelf.check_idle" (L2.defArgs s_Shelf_check_idle) (L2.defBody s_Shelf_check_idle) (L2.defScope s_Shelf_check_idle) .none kV_Shelf_check_idle dc_Shelf_check_idle pm_Shelf_check_idle an_Shelf_check_idle cd_Shelf_check_idle ct_Shelf_check_idle), sl_Shelf_check_idle⟩)
    (x_c_Shelf_check_idle : PySem.W.codeIn K cd_Shelf_check_idle "Shelf.check_idle" = true)
    (x_k_Shelf_check_idle : PySem.W.keepIn K (.ref f_Shelf_check_idle) = true)
    (x_a_Shelf_let_come : PySem.W.findIn K (.ref C_Shelf) "let_come" = some (some (.ref f_Shelf_let_come)))
    (x_i_Shelf_let_come : PySem.W.isFn K (.ref f_Shelf_let_come) = true)
    (x_l_Shelf_let_come : K.lookup f_Shelf_let_come = some ⟨oc_Shelf_let_come, od_Shelf_let_come, .func (PySem.W.fnOf "let_come" "Shelf.let_come" (L2.defArgs s_Shelf_let_come) (L2.defBody s_Shelf_let_come) (L2.defScope s_Shelf_let_come) .none kV_Shelf_let_come dc_Shelf_let_come pm_Shelf_let_come an_Shelf_let_come cd_Shelf_let_come ct_Shelf_let_come), sl_Shelf_let_come⟩)
    (x_c_Shelf_let_come : PySem.W.codeIn K cd_Shelf_let_come "Shelf.let_come" = true)
    (x_k_Shelf_let_come : PySem.W.keepIn K (.ref f_Shelf_let_come) = true)
    (x_a_Shelf_let_go : PySem.W.findIn K (.ref C_Shelf) "let_go" = some (some (.ref f_Shelf_let_go)))
    (x_i_Shelf_let_go : PySem.W.isFn K (.ref f_Shelf_let_go) = true)
    (x_l_Shelf_let_go : K.lookup f_Shelf_let_go = some ⟨oc_Shelf_let_go, od_Shelf_let_go, .func (PySem.W.fnOf "let_go" "Shelf.let_go" (L2.defArgs s_Shelf_let_go) (L2.defBody s_Shelf_let_go) (L2.defScope s_Shelf_let_go) .none kV_Shelf_let_go dc_Shelf_let_go pm_Shelf_let_go an_Shelf_let_go cd_Shelf_let_go ct_Shelf_let_go), sl_Shelf_let_go⟩)
    (x_c_Shelf_let_go : PySem.W.codeIn K cd_Shelf_let_go "Shelf.let_go" = true)
    (x_k_Shelf_let_go : PySem.W.keepIn K (.ref f_Shelf_let_go) = true)
    (x_a_Shelf_add : PySem.W.findIn K (.ref C_Shelf) "add" = some (some (.ref f_Shelf_add)))
    (x_i_Shelf_add : PySem.W.isFn K (.ref f_Shelf_add) = true)
    (x_l_Shelf_add : K.lookup f_Shelf_add = some ⟨oc_Shelf_add, od_Shelf_add, .func (PySem.W.fnOf "add" "Shelf.add" (L2.defArgs s_Shelf_add) (L2.defBody s_Shelf_add) (L2.defScope s_Shelf_add) .none kV_Shelf_add dc_Shelf_add pm_Shelf_add an_Shelf_add cd_Shelf_add ct_Shelf_add), sl_Shelf_add⟩)
    (x_c_Shelf_add : PySem.W.codeIn K cd_Shelf_add "Shelf.add" = true)
    (x_k_Shelf_add : PySem.W.keepIn K (.ref f_Shelf_add) = true)
    (x_a_Shelf_remove : PySem.W.findIn K (.ref C_Shelf) "remove" = some (some (.ref f_Shelf_remove)))
    (x_i_Shelf_remove : PySem.W.isFn K (.ref f_Shelf_remove) = true)
    (x_l_Shelf_remove : K.lookup f_Shelf_remove = some ⟨oc_Shelf_remove, od_Shelf_remove, .func (PySem.W.fnOf "remove" "Shelf.remove" (L2.defArgs s_Shelf_remove) (L2.defBody s_Shelf_remove) (L2.defScope s_Shelf_remove) .none kV_Shelf_remove dc_Shelf_remove pm_Shelf_remove an_Shelf_remove cd_Shelf_remove ct_Shelf_remove), sl_Shelf_remove⟩)
    (x_c_Shelf_remove : PySem.W.codeIn K cd_Shelf_remove "Shelf.remove" = true)
    (x_k_Shelf_remove : PySem.W.keepIn K (.ref f_Shelf_remove) = true)
    (x_a_Shelf_undo : PySem.W.findIn K (.ref C_Shelf) "undo" = some (some (.ref f_Shelf_undo)))
    (x_i_Shelf_undo : PySem.W.isFn K (.ref f_Shelf_undo) = true)
    (x_l_Shelf_undo : K.lookup f_Shelf_undo = some ⟨oc_Shelf_undo, od_Shelf_undo, .func (PySem.W.fnOf "undo" "Shelf.undo" (L2.defArgs s_Shelf_undo) (L2.defBody s_Shelf_undo) (L2.defScope s_Shelf_undo) .none kV_Shelf_undo dc_Shelf_undo pm_Shelf_undo an_Shelf_undo cd_Shelf_undo ct_Shelf_undo), sl_Shelf_undo⟩)
    (x_c_Shelf_undo : PySem.W.codeIn K cd_Shelf_undo "Shelf.undo" = true)
    (x_k_Shelf_undo : PySem.W.keepIn K (.ref f_Shelf_undo) = true)
    (x_a_Shelf_trial : PySem.W.findIn K (.ref C_Shelf) "trial" = some (some (.ref f_Shelf_trial)))
    (x_i_Shelf_trial : PySem.W.isFn K (.ref f_Shelf_trial) = true)
    (x_l_Shelf_trial : K.lookup f_Shelf_trial = some ⟨oc_Shelf_trial, od_Shelf_trial, .func (PySem.W.fnOf "trial" "Shelf.trial" (L2.defArgs s_Shelf_trial) (L2.defBody s_Shelf_trial) (L2.defScope s_Shelf_trial) .none kV_Shelf_trial dc_Shelf_trial pm_Shelf_trial an_Shelf_trial cd_Shelf_trial ct_Shelf_trial), sl_Shelf_trial⟩)
    (x_c_Shelf_trial : PySem.W.codeIn K cd_Shelf_trial "Shelf.trial" = true)
    (x_k_Shelf_trial : PySem.W.keepIn K (.ref f_Shelf_trial) = true)
    (x_a_Shelf___len__ : PySem.W.findIn K (.ref C_Shelf) "__len__" = some (some (.ref f_Shelf___len__)))
    (x_i_Shelf___len__ : PySem.W.isFn K (.ref f_Shelf___len__) = true)
    (x_l_Shelf___len__ : K.lookup f_Shelf___len__ = some ⟨oc_Shelf___len__, od_Shelf___len__, .func (PySem.W.fnOf "__len__" "Shelf.__len__" (L2.defArgs s_Shelf___len__) (L2.defBody s_Shelf___len__) (L2.defScope s_Shelf___len__) .none kV_Shelf___len__ dc_Shelf___len__ pm_Shelf___len__ an_Shelf___len__ cd_Shelf___len__ ct_Shelf___len__), sl_Shelf___len__⟩)
    (x_c_Shelf___len__ : PySem.W.codeIn K cd_Shelf___len__ "Shelf.__len__" = true)
    (x_k_Shelf___len__ : PySem.W.keepIn K (.ref f_Shelf___len__) = true)
    (x_a_Shelf___repr__ : PySem.W.findIn K (.ref C_Shelf) "__repr__" = some (some (.ref f_Shelf___repr__)))
    (x_i_Shelf___repr__ : PySem.W.isFn K (.ref f_Shelf___repr__) = true)
    (x_l_Shelf___repr__ : K.lookup f_Shelf___repr__ = some ⟨oc_Shelf___repr__, od_Shelf___repr__, .func (PySem.W.fnOf "__repr__" "Shelf.__repr__" (L2.defArgs s_Shelf___repr__) (L2.defBody s_Shelf___repr__) (L2.defScope s_Shelf___repr__) .none kV_Shelf___repr__ dc_Shelf___repr__ pm_Shelf___repr__ an_Shelf___repr__ cd_Shelf___repr__ ct_Shelf___repr__), sl_Shelf___repr__⟩)
    (x_c_Shelf___repr__ : PySem.W.codeIn K cd_Shelf___repr__ "Shelf.__repr__" = true)
    (x_k_Shelf___repr__ : PySem.W.keepIn K (.ref f_Shelf___repr__) = true)
    (x_a_is_integer : PySem.W.nsIn K mainGlobals "is_integer" = some (some (.ref f_is_integer)))
    (x_i_is_integer : PySem.W.isFn K (.ref f_is_integer) = true)
    (x_l_is_integer : K.lookup f_is_integer = some ⟨oc_is_integer, od_is_integer, .func (PySem.W.fnOf "is_integer" "is_integer" (L2.defArgs s_is_integer) (L2.defBody s_is_integer) (L2.defScope s_is_integer) .none kV_is_integer dc_is_integer pm_is_integer an_is_integer cd_is_integer ct_is_integer), sl_is_integer⟩)
    (x_c_is_integer : PySem.W.codeIn K cd_is_integer "is_integer" = true)
    (x_k_is_integer : PySem.W.keepIn K (.ref f_is_integer) = true)
    (x_a_is_text : PySem.W.nsIn K mainGlobals "is_text" = some (some (.ref f_is_text)))
    (x_i_is_text : PySem.W.isFn K (.ref f_is_text) = true)
    (x_l_is_text : K.lookup f_is_text = some ⟨oc_is_text, od_is_text, .func (PySem.W.fnOf "is_text" "is_text" (L2.defArgs s_is_text) (L2.defBody s_is_text) (L2.defScope s_is_text) .none kV_is_text dc_is_text pm_is_text an_is_text cd_is_text ct_is_text), sl_is_text⟩)
    (x_c_is_text : PySem.W.codeIn K cd_is_text "is_text" = true)
    (x_k_is_text : PySem.W.keepIn K (.ref f_is_text) = true)
    (x_a_check_text : PySem.W.nsIn K mainGlobals "check_text" = some (some (.ref f_check_text)))
    (x_i_check_text : PySem.W.isFn K (.ref f_check_text) = true)
    (x_l_check_text : K.lookup f_check_text = some ⟨oc_check_text, od_check_text, .func (PySem.W.fnOf "check_text" "check_text" (L2.defArgs s_check_text) (L2.defBody s_check_text) (L2.defScope s_check_text) .none kV_check_text dc_check_text pm_check_text an_check_text cd_check_text ct_check_text), sl_check_text⟩)
    (x_c_check_text : PySem.W.codeIn K cd_check_text "check_text" = true)
    (x_k_check_text : PySem.W.keepIn K (.ref f_check_text) = true)
    (x_a_check_namer : PySem.W.nsIn K mainGlobals "check_namer" = some (some (.ref f_check_namer)))
    (x_i_check_namer : PySem.W.isFn K (.ref f_check_namer) = true)
    (x_l_check_namer : K.lookup f_check_namer = some ⟨oc_check_namer, od_check_namer, .func (PySem.W.fnOf "check_namer" "check_namer" (L2.defArgs s_check_namer) (L2.defBody s_check_namer) (L2.defScope s_check_namer) .none kV_check_namer dc_check_namer pm_check_namer an_check_namer cd_check_namer ct_check_namer), sl_check_namer⟩)
    (x_c_check_namer : PySem.W.codeIn K cd_check_namer "check_namer" = true)
    (x_k_check_namer : PySem.W.keepIn K (.ref f_check_namer) = true)
    (x_a_check_deeds : PySem.W.nsIn K mainGlobals "check_deeds" = some (some (.ref f_check_deeds)))
    (x_i_check_deeds : PySem.W.isFn K (.ref f_check_deeds) = true)
    (x_l_check_deeds : K.lookup f_check_deeds = some ⟨oc_check_deeds, od_check_deeds, .func (PySem.W.fnOf "check_deeds" "check_deeds" (L2.defArgs s_check_deeds) (L2.defBody s_check_deeds) (L2.defScope s_check_deeds) .none kV_check_deeds dc_check_deeds pm_check_deeds an_check_deeds cd_check_deeds ct_check_deeds), sl_check_deeds⟩)
    (x_c_check_deeds : PySem.W.codeIn K cd_check_deeds "check_deeds" = true)
    (x_k_check_deeds : PySem.W.keepIn K (.ref f_check_deeds) = true)
    (x_a__law_source : PySem.W.nsIn K mainGlobals "_law_source" = some (some (.ref f__law_source)))
    (x_i__law_source : PySem.W.isFn K (.ref f__law_source) = true)
    (x_l__law_source : K.lookup f__law_source = some ⟨oc__law_source, od__law_source, .func (PySem.W.fnOf "_law_source" "_law_source" (L2.defArgs s__law_source) (L2.defBody s__law_source) (L2.defScope s__law_source) .none kV__law_source dc__law_source pm__law_source an__law_source cd__law_source ct__law_source), sl__law_source⟩)
    (x_c__law_source : PySem.W.codeIn K cd__law_source "_law_source" = true)
    (x_k__law_source : PySem.W.keepIn K (.ref f__law_source) = true)
    (x_a__law_draw : PySem.W.nsIn K mainGlobals "_law_draw" = some (some (.ref f__law_draw)))
    (x_i__law_draw : PySem.W.isFn K (.ref f__law_draw) = true)
    (x_l__law_draw : K.lookup f__law_draw = some ⟨oc__law_draw, od__law_draw, .func (PySem.W.fnOf "_law_draw" "_law_draw" (L2.defArgs s__law_draw) (L2.defBody s__law_draw) (L2.defScope s__law_draw) .none kV__law_draw dc__law_draw pm__law_draw an__law_draw cd__law_draw ct__law_draw), sl__law_draw⟩)
    (x_c__law_draw : PySem.W.codeIn K cd__law_draw "_law_draw" = true)
    (x_k__law_draw : PySem.W.keepIn K (.ref f__law_draw) = true)
    (x_a__law_one : PySem.W.nsIn K mainGlobals "_law_one" = some (some (.ref f__law_one)))
    (x_i__law_one : PySem.W.isFn K (.ref f__law_one) = true)
    (x_l__law_one : K.lookup f__law_one = some ⟨oc__law_one, od__law_one, .func (PySem.W.fnOf "_law_one" "_law_one" (L2.defArgs s__law_one) (L2.defBody s__law_one) (L2.defScope s__law_one) .none kV__law_one dc__law_one pm__law_one an__law_one cd__law_one ct__law_one), sl__law_one⟩)
    (x_c__law_one : PySem.W.codeIn K cd__law_one "_law_one" = true)
    (x_k__law_one : PySem.W.keepIn K (.ref f__law_one) = true)
    (x_a__law_stem : PySem.W.nsIn K mainGlobals "_law_stem" = some (some (.ref f__law_stem)))
    (x_i__law_stem : PySem.W.isFn K (.ref f__law_stem) = true)
    (x_l__law_stem : K.lookup f__law_stem = some ⟨oc__law_stem, od__law_stem, .func (PySem.W.fnOf "_law_stem" "_law_stem" (L2.defArgs s__law_stem) (L2.defBody s__law_stem) (L2.defScope s__law_stem) .none kV__law_stem dc__law_stem pm__law_stem an__law_stem cd__law_stem ct__law_stem), sl__law_stem⟩)
    (x_c__law_stem : PySem.W.codeIn K cd__law_stem "_law_stem" = true)
    (x_k__law_stem : PySem.W.keepIn K (.ref f__law_stem) = true)
    (x_a__law_word : PySem.W.nsIn K mainGlobals "_law_word" = some (some (.ref f__law_word)))
    (x_i__law_word : PySem.W.isFn K (.ref f__law_word) = true)
    (x_l__law_word : K.lookup f__law_word = some ⟨oc__law_word, od__law_word, .func (PySem.W.fnOf "_law_word" "_law_word" (L2.defArgs s__law_word) (L2.defBody s__law_word) (L2.defScope s__law_word) .none kV__law_word dc__law_word pm__law_word an__law_word cd__law_word ct__law_word), sl__law_word⟩)
    (x_c__law_word : PySem.W.codeIn K cd__law_word "_law_word" = true)
    (x_k__law_word : PySem.W.keepIn K (.ref f__law_word) = true)
    (x_a__law_numbered : PySem.W.nsIn K mainGlobals "_law_numbered" = some (some (.ref f__law_numbered)))
    (x_i__law_numbered : PySem.W.isFn K (.ref f__law_numbered) = true)
    (x_l__law_numbered : K.lookup f__law_numbered = some ⟨oc__law_numbered, od__law_numbered, .func (PySem.W.fnOf "_law_numbered" "_law_numbered" (L2.defArgs s__law_numbered) (L2.defBody s__law_numbered) (L2.defScope s__law_numbered) .none kV__law_numbered dc__law_numbered pm__law_numbered an__law_numbered cd__law_numbered ct__law_numbered), sl__law_numbered⟩)
    (x_c__law_numbered : PySem.W.codeIn K cd__law_numbered "_law_numbered" = true)
    (x_k__law_numbered : PySem.W.keepIn K (.ref f__law_numbered) = true)
    (x_a__law_name : PySem.W.nsIn K mainGlobals "_law_name" = some (some (.ref f__law_name)))
    (x_i__law_name : PySem.W.isFn K (.ref f__law_name) = true)
    (x_l__law_name : K.lookup f__law_name = some ⟨oc__law_name, od__law_name, .func (PySem.W.fnOf "_law_name" "_law_name" (L2.defArgs s__law_name) (L2.defBody s__law_name) (L2.defScope s__law_name) .none kV__law_name dc__law_name pm__law_name an__law_name cd__law_name ct__law_name), sl__law_name⟩)
    (x_c__law_name : PySem.W.codeIn K cd__law_name "_law_name" = true)
    (x_k__law_name : PySem.W.keepIn K (.ref f__law_name) = true)
    (x_a__law_refusal : PySem.W.nsIn K mainGlobals "_law_refusal" = some (some (.ref f__law_refusal)))
    (x_i__law_refusal : PySem.W.isFn K (.ref f__law_refusal) = true)
    (x_l__law_refusal : K.lookup f__law_refusal = some ⟨oc__law_refusal, od__law_refusal, .func (PySem.W.fnOf "_law_refusal" "_law_refusal" (L2.defArgs s__law_refusal) (L2.defBody s__law_refusal) (L2.defScope s__law_refusal) .none kV__law_refusal dc__law_refusal pm__law_refusal an__law_refusal cd__law_refusal ct__law_refusal), sl__law_refusal⟩)
    (x_c__law_refusal : PySem.W.codeIn K cd__law_refusal "_law_refusal" = true)
    (x_k__law_refusal : PySem.W.keepIn K (.ref f__law_refusal) = true)
    (x_a__law_tried : PySem.W.nsIn K mainGlobals "_law_tried" = some (some (.ref f__law_tried)))
    (x_i__law_tried : PySem.W.isFn K (.ref f__law_tried) = true)
    (x_l__law_tried : K.lookup f__law_tried = some ⟨oc__law_tried, od__law_tried, .func (PySem.W.fnOf "_law_tried" "_law_tried" (L2.defArgs s__law_tried) (L2.defBody s__law_tried) (L2.defScope s__law_tried) .none kV__law_tried dc__law_tried pm__law_tried an__law_tried cd__law_tried ct__law_tried), sl__law_tried⟩)
    (x_c__law_tried : PySem.W.codeIn K cd__law_tried "_law_tried" = true)
    (x_k__law_tried : PySem.W.keepIn K (.ref f__law_tried) = true)
    (x_a__law_is : PySem.W.nsIn K mainGlobals "_law_is" = some (some (.ref f__law_is)))
    (x_i__law_is : PySem.W.isFn K (.ref f__law_is) = true)
    (x_l__law_is : K.lookup f__law_is = some ⟨oc__law_is, od__law_is, .func (PySem.W.fnOf "_law_is" "_law_is" (L2.defArgs s__law_is) (L2.defBody s__law_is) (L2.defScope s__law_is) .none kV__law_is dc__law_is pm__law_is an__law_is cd__law_is ct__law_is), sl__law_is⟩)
    (x_c__law_is : PySem.W.codeIn K cd__law_is "_law_is" = true)
    (x_k__law_is : PySem.W.keepIn K (.ref f__law_is) = true)
    (x_a__law_added : PySem.W.nsIn K mainGlobals "_law_added" = some (some (.ref f__law_added)))
    (x_i__law_added : PySem.W.isFn K (.ref f__law_added) = true)
    (x_l__law_added : K.lookup f__law_added = some ⟨oc__law_added, od__law_added, .func (PySem.W.fnOf "_law_added" "_law_added" (L2.defArgs s__law_added) (L2.defBody s__law_added) (L2.defScope s__law_added) .none kV__law_added dc__law_added pm__law_added an__law_added cd__law_added ct__law_added), sl__law_added⟩)
    (x_c__law_added : PySem.W.codeIn K cd__law_added "_law_added" = true)
    (x_k__law_added : PySem.W.keepIn K (.ref f__law_added) = true)
    (x_a__law_removed : PySem.W.nsIn K mainGlobals "_law_removed" = some (some (.ref f__law_removed)))
    (x_i__law_removed : PySem.W.isFn K (.ref f__law_removed) = true)
    (x_l__law_removed : K.lookup f__law_removed = some ⟨oc__law_removed, od__law_removed, .func (PySem.W.fnOf "_law_removed" "_law_removed" (L2.defArgs s__law_removed) (L2.defBody s__law_removed) (L2.defScope s__law_removed) .none kV__law_removed dc__law_removed pm__law_removed an__law_removed cd__law_removed ct__law_removed), sl__law_removed⟩)
    (x_c__law_removed : PySem.W.codeIn K cd__law_removed "_law_removed" = true)
    (x_k__law_removed : PySem.W.keepIn K (.ref f__law_removed) = true)
    (x_a__law_shelf_is : PySem.W.nsIn K mainGlobals "_law_shelf_is" = some (some (.ref f__law_shelf_is)))
    (x_i__law_shelf_is : PySem.W.isFn K (.ref f__law_shelf_is) = true)
    (x_l__law_shelf_is : K.lookup f__law_shelf_is = some ⟨oc__law_shelf_is, od__law_shelf_is, .func (PySem.W.fnOf "_law_shelf_is" "_law_shelf_is" (L2.defArgs s__law_shelf_is) (L2.defBody s__law_shelf_is) (L2.defScope s__law_shelf_is) .none kV__law_shelf_is dc__law_shelf_is pm__law_shelf_is an__law_shelf_is cd__law_shelf_is ct__law_shelf_is), sl__law_shelf_is⟩)
    (x_c__law_shelf_is : PySem.W.codeIn K cd__law_shelf_is "_law_shelf_is" = true)
    (x_k__law_shelf_is : PySem.W.keepIn K (.ref f__law_shelf_is) = true)
    (x_a__law_added_right : PySem.W.nsIn K mainGlobals "_law_added_right" = some (some (.ref f__law_added_right)))
    (x_i__law_added_right : PySem.W.isFn K (.ref f__law_added_right) = true)
    (x_l__law_added_right : K.lookup f__law_added_right = some ⟨oc__law_added_right, od__law_added_right, .func (PySem.W.fnOf "_law_added_right" "_law_added_right" (L2.defArgs s__law_added_right) (L2.defBody s__law_added_right) (L2.defScope s__law_added_right) .none kV__law_added_right dc__law_added_right pm__law_added_right an__law_added_right cd__law_added_right ct__law_added_right), sl__law_added_right⟩)
    (x_c__law_added_right : PySem.W.codeIn K cd__law_added_right "_law_added_right" = true)
    (x_k__law_added_right : PySem.W.keepIn K (.ref f__law_added_right) = true)
    (x_a__law_removed_right : PySem.W.nsIn K mainGlobals "_law_removed_right" = some (some (.ref f__law_removed_right)))
    (x_i__law_removed_right : PySem.W.isFn K (.ref f__law_removed_right) = true)
    (x_l__law_removed_right : K.lookup f__law_removed_right = some ⟨oc__law_removed_right, od__law_removed_right, .func (PySem.W.fnOf "_law_removed_right" "_law_removed_right" (L2.defArgs s__law_removed_right) (L2.defBody s__law_removed_right) (L2.defScope s__law_removed_right) .none kV__law_removed_right dc__law_removed_right pm__law_removed_right an__law_removed_right cd__law_removed_right ct__law_removed_right), sl__law_removed_right⟩)
    (x_c__law_removed_right : PySem.W.codeIn K cd__law_removed_right "_law_removed_right" = true)
    (x_k__law_removed_right : PySem.W.keepIn K (.ref f__law_removed_right) = true)
    (x_a__law_step : PySem.W.nsIn K mainGlobals "_law_step" = some (some (.ref f__law_step)))
    (x_i__law_step : PySem.W.isFn K (.ref f__law_step) = true)
    (x_l__law_step : K.lookup f__law_step = some ⟨oc__law_step, od__law_step, .func (PySem.W.fnOf "_law_step" "_law_step" (L2.defArgs s__law_step) (L2.defBody s__law_step) (L2.defScope s__law_step) .none kV__law_step dc__law_step pm__law_step an__law_step cd__law_step ct__law_step), sl__law_step⟩)
    (x_c__law_step : PySem.W.codeIn K cd__law_step "_law_step" = true)
    (x_k__law_step : PySem.W.keepIn K (.ref f__law_step) = true)
    (x_a_law : PySem.W.nsIn K mainGlobals "law" = some (some (.ref f_law)))
    (x_i_law : PySem.W.isFn K (.ref f_law) = true)
    (x_l_law : K.lookup f_law = some ⟨oc_law, od_law, .func (PySem.W.fnOf "law" "law" (L2.defArgs s_law) (L2.defBody s_law) (L2.defScope s_law) .none kV_law dc_law pm_law an_law cd_law ct_law), sl_law⟩)
    (x_c_law : PySem.W.codeIn K cd_law "law" = true)
    (x_k_law : PySem.W.keepIn K (.ref f_law) = true)
    (x_me_tb__law_added_right : PySem.W.tabIn K "_law_added_right" = some (cc__law_added_right, PP__law_added_right))
    (x_me_cd__law_added_right : cd__law_added_right = .ref cc__law_added_right)
    (x_me_hd__law_added_right : PySem.W.codeHdIn K cc__law_added_right PP__law_added_right = true)
    (x_me_np__law_added_right : K.lookup PP__law_added_right = none)
    (x_tab__law_added_right : h.get? PP__law_added_right = some { cls := .none, data := .fields #[] })
    (x_me_ps__law_added_right : (PP__law_added_right == sysModules) = false)
    (x_me_tb__law_removed_right : PySem.W.tabIn K "_law_removed_right" = some (cc__law_removed_right, PP__law_removed_right))
    (x_me_cd__law_removed_right : cd__law_removed_right = .ref cc__law_removed_right)
    (x_me_hd__law_removed_right : PySem.W.codeHdIn K cc__law_removed_right PP__law_removed_right = true)
    (x_me_np__law_removed_right : K.lookup PP__law_removed_right = none)
    (x_tab__law_removed_right : h.get? PP__law_removed_right = some { cls := .none, data := .fields #[] })
    (x_me_ps__law_removed_right : (PP__law_removed_right == sysModules) = false)
    (x_me_pd__law_removed_right__law_added_right : (PP__law_removed_right == PP__law_added_right) = false)
    (x_me_tb__law_step : PySem.W.tabIn K "_law_step" = some (cc__law_step, PP__law_step))
    (x_me_cd__law_step : cd__law_step = .ref cc__law_step)
    (x_me_hd__law_step : PySem.W.codeHdIn K cc__law_step PP__law_step = true)
    (x_me_np__law_step : K.lookup PP__law_step = none)
    (x_tab__law_step : h.get? PP__law_step = some { cls := .none, data := .fields #[] })
    (x_me_ps__law_step : (PP__law_step == sysModules) = false)
    (x_me_pd__law_step__law_added_right : (PP__law_step == PP__law_added_right) = false)
    (x_me_pd__law_step__law_removed_right : (PP__law_step == PP__law_removed_right) = false)
    (x_me_tb_law : PySem.W.tabIn K "law" = some (cc_law, PP_law))
    (x_me_cd_law : cd_law = .ref cc_law)
    (x_me_hd_law : PySem.W.codeHdIn K cc_law PP_law = true)
    (x_me_np_law : K.lookup PP_law = none)
    (x_tab_law : h.get? PP_law = some { cls := .none, data := .fields #[] })
    (x_me_ps_law : (PP_law == sysModules) = false)
    (x_me_pd_law__law_added_right : (PP_law == PP__law_added_right) = false)
    (x_me_pd_law__law_removed_right : (PP_law == PP__law_removed_right) = false)
    (x_me_pd_law__law_step : (PP_law == PP__law_step) = false) : ∃ T : Tx K mg, T.f_law = f_law ∧ h.get? T.PP__law_added_right = some { cls := .none, data := .fields #[] } ∧ h.get? T.PP__law_removed_right = some { cls := .none, data := .fields #[] } ∧ h.get? T.PP__law_step = some { cls := .none, data := .fields #[] } ∧ h.get? T.PP_law = some { cls := .none, data := .fields #[] } := by
  exact ⟨⟨PySem.W.mg_none_of X G x_n_ArithmeticError,
    PySem.W.mg_none_of X G x_n_LookupError,
    PySem.W.mg_none_of X G x_n_ValueError,
    PySem.W.mg_none_of X G x_n_abs,
    PySem.W.mg_none_of X G x_n_all,
    PySem.W.mg_none_of X G x_n_bool,
    PySem.W.mg_none_of X G x_n_divmod,
    PySem.W.mg_none_of X G x_n_enumerate,
    PySem.W.mg_none_of X G x_n_int,
    PySem.W.mg_none_of X G x_n_isinstance,
    PySem.W.mg_none_of X G x_n_len,
    PySem.W.mg_none_of X G x_n_max,
    PySem.W.mg_none_of X G x_n_min,
    PySem.W.mg_none_of X G x_n_range,
    PySem.W.mg_none_of X G x_n_repr,
    PySem.W.mg_none_of X G x_n_str,
    PySem.W.mg_none_of X G x_n_tuple,
    ⟨_, PySem.W.mg_of X G x_k_MOST_SIGNS, _, rfl⟩,
    ⟨_, PySem.W.mg_of X G x_k_MOST_TEXT, _, rfl⟩,
    ⟨_, PySem.W.mg_of X G x_k_MOST_SHELVED, _, rfl⟩,
    ⟨_, PySem.W.mg_of X G x_k_SIGNS, _, rfl⟩,
    ad_RULES,
    PySem.W.mg_of X G x_m_RULES,
    fun _ => .inr ⟨_, _, _, x_q_RULES, rfl, rfl, (by show 3 ≤ sizeLine; decide), .cons ⟨_, rfl⟩ (.cons ⟨_, rfl⟩ (.cons ⟨_, rfl⟩ (.nil)))⟩,
    ⟨_, PySem.W.mg_of X G x_k_LEAST_WIDTH, _, rfl⟩,
    ⟨_, PySem.W.mg_of X G x_k_FIRST_NUMBER, _, rfl⟩,
    ad_DEEDS,
    PySem.W.mg_of X G x_m_DEEDS,
    fun _ => .inr ⟨_, _, _, x_q_DEEDS, rfl, rfl, (by show 2 ≤ sizeLine; decide), .cons ⟨_, rfl⟩ (.cons ⟨_, rfl⟩ (.nil))⟩,
    C_InputError,
    PySem.W.mg_of X G x_C_InputError,
    C_StateError,
    PySem.W.mg_of X G x_C_StateError,
    C_SizeError,
    PySem.W.mg_of X G x_C_SizeError,
    C_InvalidNumber,
    PySem.W.mg_of X G x_C_InvalidNumber,
    C_InvalidMark,
    PySem.W.mg_of X G x_C_InvalidMark,
    C_InvalidText,
    PySem.W.mg_of X G x_C_InvalidText,
    C_InvalidLength,
    PySem.W.mg_of X G x_C_InvalidLength,
    C_InvalidRule,
    PySem.W.mg_of X G x_C_InvalidRule,
    C_InvalidWidth,
    PySem.W.mg_of X G x_C_InvalidWidth,
    C_InvalidPlace,
    PySem.W.mg_of X G x_C_InvalidPlace,
    C_InvalidLine,
    PySem.W.mg_of X G x_C_InvalidLine,
    C_NotANamer,
    PySem.W.mg_of X G x_C_NotANamer,
    C_NotAShelf,
    PySem.W.mg_of X G x_C_NotAShelf,
    C_InvalidRow,
    PySem.W.mg_of X G x_C_InvalidRow,
    C_InvalidViews,
    PySem.W.mg_of X G x_C_InvalidViews,
    C_InvalidTexts,
    PySem.W.mg_of X G x_C_InvalidTexts,
    C_InvalidDeeds,
    PySem.W.mg_of X G x_C_InvalidDeeds,
    C_NothingToUndo,
    PySem.W.mg_of X G x_C_NothingToUndo,
    C_Busy,
    PySem.W.mg_of X G x_C_Busy,
    C_UnknownName,
    PySem.W.mg_of X G x_C_UnknownName,
    C_TooMany,
    PySem.W.mg_of X G x_C_TooMany,
    ⟨⟨nm_InvalidText, q_InvalidText, N_InvalidText, bs_InvalidText, bm_InvalidText, sn_InvalidText, sub_InvalidText, ab_InvalidText, col_InvalidText, dd_InvalidText, e0_InvalidText, e1_InvalidText, e2_InvalidText, e3_InvalidText, e5_InvalidText, x_L_InvalidText, x_me_R_InvalidText⟩, x_xs_InvalidText, x_xe_InvalidText, x_xt_InvalidText, x_xk_InvalidText⟩,
    x_na_InvalidText_value,
    f_InvalidText___init__,
    _,
    (fun_mk (st := s_InvalidText___init__) x_l_InvalidText___init__ x_c_InvalidText___init__ x_k_InvalidText___init__),
    (fun_mk (st := s_InvalidText___init__) x_l_InvalidText___init__ x_c_InvalidText___init__ x_k_InvalidText___init__).binds (ps := p_InvalidText___init__) fun _ _ _ _ _ _ us hl => match us, hl with | [_, _], _ => rfl,
    x_a_InvalidText___init__,
    x_j_InvalidText___init__,
    ⟨⟨nm_InvalidRule, q_InvalidRule, N_InvalidRule, bs_InvalidRule, bm_InvalidRule, sn_InvalidRule, sub_InvalidRule, ab_InvalidRule, col_InvalidRule, dd_InvalidRule, e0_InvalidRule, e1_InvalidRule, e2_InvalidRule, e3_InvalidRule, e5_InvalidRule, x_L_InvalidRule, x_me_R_InvalidRule⟩, x_xs_InvalidRule, x_xe_InvalidRule, x_xt_InvalidRule, x_xk_InvalidRule⟩,
    x_na_InvalidRule_value,
    f_InvalidRule___init__,
    _,
    (fun_mk (st := s_InvalidRule___init__) x_l_InvalidRule___init__ x_c_InvalidRule___init__ x_k_InvalidRule___init__),
    (fun_mk (st := s_InvalidRule___init__) x_l_InvalidRule___init__ x_c_InvalidRule___init__ x_k_InvalidRule___init__).binds (ps := p_InvalidRule___init__) fun _ _ _ _ _ _ us hl => match us, hl with | [_, _], _ => rfl,
    x_a_InvalidRule___init__,
    x_j_InvalidRule___init__,
    ⟨⟨nm_InvalidWidth, q_InvalidWidth, N_InvalidWidth, bs_InvalidWidth, bm_InvalidWidth, sn_InvalidWidth, sub_InvalidWidth, ab_InvalidWidth, col_InvalidWidth, dd_InvalidWidth, e0_InvalidWidth, e1_InvalidWidth, e2_InvalidWidth, e3_InvalidWidth, e5_InvalidWidth, x_L_InvalidWidth, x_me_R_InvalidWidth⟩, x_xs_InvalidWidth, x_xe_InvalidWidth, x_xt_InvalidWidth, x_xk_InvalidWidth⟩,
    x_na_InvalidWidth_value,
    f_InvalidWidth___init__,
    _,
    (fun_mk (st := s_InvalidWidth___init__) x_l_InvalidWidth___init__ x_c_InvalidWidth___init__ x_k_InvalidWidth___init__),
    (fun_mk (st := s_InvalidWidth___init__) x_l_InvalidWidth___init__ x_c_InvalidWidth___init__ x_k_InvalidWidth___init__).binds (ps := p_InvalidWidth___init__) fun _ _ _ _ _ _ us hl => match us, hl with | [_, _], _ => rfl,
    x_a_InvalidWidth___init__,
    x_j_InvalidWidth___init__,
    ⟨⟨nm_NotANamer, q_NotANamer, N_NotANamer, bs_NotANamer, bm_NotANamer, sn_NotANamer, sub_NotANamer, ab_NotANamer, col_NotANamer, dd_NotANamer, e0_NotANamer, e1_NotANamer, e2_NotANamer, e3_NotANamer, e5_NotANamer, x_L_NotANamer, x_me_R_NotANamer⟩, x_xs_NotANamer, x_xe_NotANamer, x_xt_NotANamer, x_xk_NotANamer⟩,
    x_na_NotANamer_value,
    f_NotANamer___init__,
    _,
    (fun_mk (st := s_NotANamer___init__) x_l_NotANamer___init__ x_c_NotANamer___init__ x_k_NotANamer___init__),
    (fun_mk (st := s_NotANamer___init__) x_l_NotANamer___init__ x_c_NotANamer___init__ x_k_NotANamer___init__).binds (ps := p_NotANamer___init__) fun _ _ _ _ _ _ us hl => match us, hl with | [_, _], _ => rfl,
    x_a_NotANamer___init__,
    x_j_NotANamer___init__,
    ⟨⟨nm_InvalidDeeds, q_InvalidDeeds, N_InvalidDeeds, bs_InvalidDeeds, bm_InvalidDeeds, sn_InvalidDeeds, sub_InvalidDeeds, ab_InvalidDeeds, col_InvalidDeeds, dd_InvalidDeeds, e0_InvalidDeeds, e1_InvalidDeeds, e2_InvalidDeeds, e3_InvalidDeeds, e5_InvalidDeeds, x_L_InvalidDeeds, x_me_R_InvalidDeeds⟩, x_xs_InvalidDeeds, x_xe_InvalidDeeds, x_xt_InvalidDeeds, x_xk_InvalidDeeds⟩,
    x_na_InvalidDeeds_index,
    f_InvalidDeeds___init__,
    _,
    (fun_mk (st := s_InvalidDeeds___init__) x_l_InvalidDeeds___init__ x_c_InvalidDeeds___init__ x_k_InvalidDeeds___init__),
    (fun_mk (st := s_InvalidDeeds___init__) x_l_InvalidDeeds___init__ x_c_InvalidDeeds___init__ x_k_InvalidDeeds___init__).binds (ps := p_InvalidDeeds___init__) fun _ _ _ _ _ _ us hl => match us, hl with | [_, _], _ => rfl,
    x_a_InvalidDeeds___init__,
    x_j_InvalidDeeds___init__,
    ⟨PySem.F.excBase_LookupError, V.pass_lookup, rfl, ⟨nm_UnknownName, q_UnknownName, N_UnknownName, bs_UnknownName, bm_UnknownName, sn_UnknownName, sub_UnknownName, ab_UnknownName, col_UnknownName, dd_UnknownName, e0_UnknownName, e1_UnknownName, e2_UnknownName, e3_UnknownName, e5_UnknownName, x_L_UnknownName, x_me_R_UnknownName⟩, x_xs_UnknownName, x_xe_UnknownName, x_xt_UnknownName, x_xk_UnknownName⟩,
    x_na_UnknownName_value,
    f_UnknownName___init__,
    _,
    (fun_mk (st := s_UnknownName___init__) x_l_UnknownName___init__ x_c_UnknownName___init__ x_k_UnknownName___init__),
    (fun_mk (st := s_UnknownName___init__) x_l_UnknownName___init__ x_c_UnknownName___init__ x_k_UnknownName___init__).binds (ps := p_UnknownName___init__) fun _ _ _ _ _ _ us hl => match us, hl with | [_, _], _ => rfl,
    x_a_UnknownName___init__,
    x_j_UnknownName___init__,
    ⟨PySem.F.excBase_ArithmeticError, V.pass_arith, rfl, ⟨nm_TooMany, q_TooMany, N_TooMany, bs_TooMany, bm_TooMany, sn_TooMany, sub_TooMany, ab_TooMany, col_TooMany, dd_TooMany, e0_TooMany, e1_TooMany, e2_TooMany, e3_TooMany, e5_TooMany, x_L_TooMany, x_me_R_TooMany⟩, x_xs_TooMany, x_xe_TooMany, x_xt_TooMany, x_xk_TooMany⟩,
    x_na_TooMany_limit,
    f_TooMany___init__,
    _,
    (fun_mk (st := s_TooMany___init__) x_l_TooMany___init__ x_c_TooMany___init__ x_k_TooMany___init__),
    (fun_mk (st := s_TooMany___init__) x_l_TooMany___init__ x_c_TooMany___init__ x_k_TooMany___init__).binds (ps := p_TooMany___init__) fun _ _ _ _ _ _ us hl => match us, hl with | [_, _], _ => rfl,
    x_a_TooMany___init__,
    x_j_TooMany___init__,
    x_me_q_Busy,
    x_kq_Busy,
    x_bq_Busy,
    x_tq_Busy,
    x_me_q_NothingToUndo,
    x_kq_NothingToUndo,
    x_bq_NothingToUndo,
    x_tq_NothingToUndo,
    ⟨x_ga_InvalidText, x_gg_InvalidText, x_xe_InvalidText, x_xd_InvalidText⟩,
    ⟨x_ga_InvalidText, x_gg_InvalidText, x_xe_InvalidText, x_xd_InvalidText, x_xa_InvalidText, x_xn_InvalidText, x_xq_InvalidText, x_xm_InvalidText⟩,
    x_me_kr_InvalidText_0,
    x_me_kr_InvalidText_1,
    x_me_kr_InvalidText_2,
    x_me_kr_InvalidText_3,
    x_me_kr_InvalidText_4,
    x_me_kr_InvalidText_5,
    x_me_kr_InvalidText_6,
    x_me_kr_InvalidText_7,
    x_me_kr_InvalidText_8,
    x_me_kr_InvalidText_9,
    x_me_kr_InvalidText_10,
    x_me_kr_InvalidText_11,
    x_me_kr_InvalidText_12,
    x_me_kr_InvalidText_13,
    x_me_kr_InvalidText_14,
    x_me_kr_InvalidText_15,
    x_me_kr_InvalidText_16,
    x_me_kr_InvalidText_17,
    x_me_kr_InvalidText_18,
    x_me_kr_InvalidText_19,
    x_me_kr_InvalidText_20,
    x_me_kr_InvalidText_21,
    x_me_kr_InvalidText_22,
    x_me_kr_InvalidText_23,
    ⟨x_ga_TooMany, x_gg_TooMany, x_xe_TooMany, x_xd_TooMany⟩,
    ⟨x_ga_TooMany, x_gg_TooMany, x_xe_TooMany, x_xd_TooMany, x_xa_TooMany, x_xn_TooMany, x_xq_TooMany, x_xm_TooMany⟩,
    x_me_kr_TooMany_0,
    x_me_kr_TooMany_1,
    x_me_kr_TooMany_2,
    x_me_kr_TooMany_3,
    x_me_kr_TooMany_4,
    x_me_kr_TooMany_5,
    x_me_kr_TooMany_6,
    x_me_kr_TooMany_7,
    x_me_kr_TooMany_8,
    x_me_kr_TooMany_9,
    x_me_kr_TooMany_10,
    x_me_kr_TooMany_11,
    x_me_kr_TooMany_12,
    x_me_kr_TooMany_13,
    x_me_kr_TooMany_14,
    x_me_kr_TooMany_15,
    x_me_kr_TooMany_16,
    x_me_kr_TooMany_17,
    x_me_kr_TooMany_18,
    x_me_kr_TooMany_19,
    x_me_kr_TooMany_20,
    x_me_kr_TooMany_21,
    x_me_kr_TooMany_22,
    x_me_kr_TooMany_23,
    ⟨x_ga_UnknownName, x_gg_UnknownName, x_xe_UnknownName, x_xd_UnknownName⟩,
    ⟨x_ga_UnknownName, x_gg_UnknownName, x_xe_UnknownName, x_xd_UnknownName, x_xa_UnknownName, x_xn_UnknownName, x_xq_UnknownName, x_xm_UnknownName⟩,
    x_me_kr_UnknownName_0,
    x_me_kr_UnknownName_1,
    x_me_kr_UnknownName_2,
    x_me_kr_UnknownName_3,
    x_me_kr_UnknownName_4,
    x_me_kr_UnknownName_5,
    x_me_kr_UnknownName_6,
    x_me_kr_UnknownName_7,
    x_me_kr_UnknownName_8,
    x_me_kr_UnknownName_9,
    x_me_kr_UnknownName_10,
    x_me_kr_UnknownName_11,
    x_me_kr_UnknownName_12,
    x_me_kr_UnknownName_13,
    x_me_kr_UnknownName_14,
    x_me_kr_UnknownName_15,
    x_me_kr_UnknownName_16,
    x_me_kr_UnknownName_17,
    x_me_kr_UnknownName_18,
    x_me_kr_UnknownName_19,
    x_me_kr_UnknownName_20,
    x_me_kr_UnknownName_21,
    x_me_kr_UnknownName_22,
    x_me_kr_UnknownName_23,
    ⟨x_ga_NothingToUndo, x_gg_NothingToUndo, x_xe_NothingToUndo, x_xd_NothingToUndo⟩,
    ⟨x_ga_NothingToUndo, x_gg_NothingToUndo, x_xe_NothingToUndo, x_xd_NothingToUndo, x_xa_NothingToUndo, x_xn_NothingToUndo, x_xq_NothingToUndo, x_xm_NothingToUndo⟩,
    x_me_kr_NothingToUndo_0,
    x_me_kr_NothingToUndo_1,
    x_me_kr_NothingToUndo_2,
    x_me_kr_NothingToUndo_3,
    x_me_kr_NothingToUndo_4,
    x_me_kr_NothingToUndo_5,
    x_me_kr_NothingToUndo_6,
    x_me_kr_NothingToUndo_7,
    x_me_kr_NothingToUndo_8,
    x_me_kr_NothingToUndo_9,
    x_me_kr_NothingToUndo_10,
    x_me_kr_NothingToUndo_11,
    x_me_kr_NothingToUndo_12,
    x_me_kr_NothingToUndo_13,
    x_me_kr_NothingToUndo_14,
    x_me_kr_NothingToUndo_15,
    x_me_kr_NothingToUndo_16,
    x_me_kr_NothingToUndo_17,
    x_me_kr_NothingToUndo_18,
    x_me_kr_NothingToUndo_19,
    x_me_kr_NothingToUndo_20,
    x_me_kr_NothingToUndo_21,
    x_me_kr_NothingToUndo_22,
    x_me_kr_NothingToUndo_23,
    x_me_eh_InvalidText_InputError,
    x_me_eh_NothingToUndo_InputError,
    x_me_eh_UnknownName_InputError,
    x_me_eh_TooMany_InputError,
    x_me_eh_InvalidText_SizeError,
    x_me_eh_NothingToUndo_SizeError,
    x_me_eh_UnknownName_SizeError,
    x_me_eh_TooMany_SizeError,
    x_me_eh_InvalidText_StateError,
    x_me_eh_NothingToUndo_StateError,
    x_me_eh_UnknownName_StateError,
    x_me_eh_TooMany_StateError,
    C_Namer,
    PySem.W.mg_of X G x_C_Namer,
    ⟨x_pg_Namer, x_hd_Namer, x_po_Namer, x_sa_Namer⟩,
    ⟨⟨x_pg_Namer, x_hd_Namer, x_po_Namer, x_sa_Namer⟩, x_ha_Namer, x_hn_Namer, x_ht_Namer, x_hm_Namer, x_me_Namer⟩,
    x_na_Namer_rule,
    x_na_Namer_width,
    x_ne_Namer,
    x_hm_Namer,
    ⟨x_non_Namer, x_nos_Namer, x_not_Namer⟩,
    ⟨⟨x_non_Namer, x_nos_Namer, x_not_Namer⟩, x_noi_Namer, x_nol_Namer⟩,
    x_me_kn_Namer,
    x_me_ks_Namer,
    x_me_ktt_Namer,
    (V.kt_of x_me_kt_Namer_NoneType x_me_kt_Namer_bool x_me_kt_Namer_int x_me_kt_Namer_str x_me_kt_Namer_list x_me_kt_Namer_tuple x_me_kt_Namer_dict),
    (V.kx_of x_me_kx_Namer_int x_me_kx_Namer_bool x_me_kx_Namer_str x_me_kx_Namer_list x_me_kx_Namer_tuple x_me_kx_Namer_dict),
    f_Namer___init__,
    _,
    (fun_mk (st := s_Namer___init__) x_l_Namer___init__ x_c_Namer___init__ x_k_Namer___init__),
    (fun_mk (st := s_Namer___init__) x_l_Namer___init__ x_c_Namer___init__ x_k_Namer___init__).binds (ps := p_Namer___init__) fun _ _ _ _ _ _ us hl => match us, hl with | [_, _, _], _ => rfl,
    ⟨x_mk_Namer, x_a_Namer___init__, x_i_Namer___init__, x_kc_Namer⟩,
    f_Namer_base_of,
    _,
    (fun_mk (st := s_Namer_base_of) x_l_Namer_base_of x_c_Namer_base_of x_k_Namer_base_of),
    (fun_mk (st := s_Namer_base_of) x_l_Namer_base_of x_c_Namer_base_of x_k_Namer_base_of).binds (ps := p_Namer_base_of) fun _ _ _ _ _ _ us hl => match us, hl with | [_, _], _ => rfl,
    ⟨x_a_Namer_base_of, x_i_Namer_base_of, x_k_Namer_base_of⟩,
    f_Namer_numbered,
    _,
    (fun_mk (st := s_Namer_numbered) x_l_Namer_numbered x_c_Namer_numbered x_k_Namer_numbered),
    (fun_mk (st := s_Namer_numbered) x_l_Namer_numbered x_c_Namer_numbered x_k_Namer_numbered).binds (ps := p_Namer_numbered) fun _ _ _ _ _ _ us hl => match us, hl with | [_, _, _], _ => rfl,
    ⟨x_a_Namer_numbered, x_i_Namer_numbered, x_k_Namer_numbered⟩,
    f_Namer_name_for,
    _,
    (fun_mk (st := s_Namer_name_for) x_l_Namer_name_for x_c_Namer_name_for x_k_Namer_name_for),
    (fun_mk (st := s_Namer_name_for) x_l_Namer_name_for x_c_Namer_name_for x_k_Namer_name_for).binds (ps := p_Namer_name_for) fun _ _ _ _ _ _ us hl => match us, hl with | [_, _, _], _ => rfl,
    ⟨x_a_Namer_name_for, x_i_Namer_name_for, x_k_Namer_name_for⟩,
    f_Namer___eq__,
    _,
    (fun_mk (st := s_Namer___eq__) x_l_Namer___eq__ x_c_Namer___eq__ x_k_Namer___eq__),
    (fun_mk (st := s_Namer___eq__) x_l_Namer___eq__ x_c_Namer___eq__ x_k_Namer___eq__).binds (ps := p_Namer___eq__) fun _ _ _ _ _ _ us hl => match us, hl with | [_, _], _ => rfl,
    ⟨x_a_Namer___eq__, x_i_Namer___eq__, x_k_Namer___eq__⟩,
    f_Namer___repr__,
    _,
    (fun_mk (st := s_Namer___repr__) x_l_Namer___repr__ x_c_Namer___repr__ x_k_Namer___repr__),
    (fun_mk (st := s_Namer___repr__) x_l_Namer___repr__ x_c_Namer___repr__ x_k_Namer___repr__).binds (ps := p_Namer___repr__) fun _ _ _ _ _ _ us hl => match us, hl with | [_], _ => rfl,
    ⟨x_a_Namer___repr__, x_i_Namer___repr__, x_k_Namer___repr__⟩,
    C_Shelf,
    PySem.W.mg_of X G x_C_Shelf,
    ⟨x_pg_Shelf, x_hd_Shelf, x_po_Shelf, x_sa_Shelf⟩,
    ⟨⟨x_pg_Shelf, x_hd_Shelf, x_po_Shelf, x_sa_Shelf⟩, x_ha_Shelf, x_hn_Shelf, x_ht_Shelf, x_hm_Shelf, x_me_Shelf⟩,
    x_na_Shelf_namer,
    x_na_Shelf_there,
    x_na_Shelf_texts,
    x_na_Shelf_names,
    x_na_Shelf_past,
    x_na_Shelf_moment,
    x_na_Shelf_busy,
    x_nb_Shelf,
    (V.kt_of x_me_kt_Shelf_NoneType x_me_kt_Shelf_bool x_me_kt_Shelf_int x_me_kt_Shelf_str x_me_kt_Shelf_list x_me_kt_Shelf_tuple x_me_kt_Shelf_dict),
    (V.kx_of x_me_kx_Shelf_int x_me_kx_Shelf_bool x_me_kx_Shelf_str x_me_kx_Shelf_list x_me_kx_Shelf_tuple x_me_kx_Shelf_dict),
    f_Shelf___init__,
    _,
    (fun_mk (st := s_Shelf___init__) x_l_Shelf___init__ x_c_Shelf___init__ x_k_Shelf___init__),
    (fun_mk (st := s_Shelf___init__) x_l_Shelf___init__ x_c_Shelf___init__ x_k_Shelf___init__).binds (ps := p_Shelf___init__) fun _ _ _ _ _ _ us hl => match us, hl with | [_, _], _ => rfl,
    ⟨x_mk_Shelf, x_a_Shelf___init__, x_i_Shelf___init__, x_kc_Shelf⟩,
    f_Shelf_settle,
    _,
    (fun_mk (st := s_Shelf_settle) x_l_Shelf_settle x_c_Shelf_settle x_k_Shelf_settle),
    (fun_mk (st := s_Shelf_settle) x_l_Shelf_settle x_c_Shelf_settle x_k_Shelf_settle).binds (ps := p_Shelf_settle) fun _ _ _ _ _ _ us hl => match us, hl with | [_, _], _ => rfl,
    ⟨x_a_Shelf_settle, x_i_Shelf_settle, x_k_Shelf_settle⟩,
    f_Shelf_change,
    _,
    (fun_mk (st := s_Shelf_change) x_l_Shelf_change x_c_Shelf_change x_k_Shelf_change),
    (fun_mk (st := s_Shelf_change) x_l_Shelf_change x_c_Shelf_change x_k_Shelf_change).binds (ps := p_Shelf_change) fun _ _ _ _ _ _ us hl => match us, hl with | [_, _], _ => rfl,
    ⟨x_a_Shelf_change, x_i_Shelf_change, x_k_Shelf_change⟩,
    f_Shelf_check_idle,
    _,
    (fun_mk (st := s_Shelf_check_idle) x_l_Shelf_check_idle x_c_Shelf_check_idle x_k_Shelf_check_idle),
    (fun_mk (st := s_Shelf_check_idle) x_l_Shelf_check_idle x_c_Shelf_check_idle x_k_Shelf_check_idle).binds (ps := p_Shelf_check_idle) fun _ _ _ _ _ _ us hl => match us, hl with | [_], _ => rfl,
    ⟨x_a_Shelf_check_idle, x_i_Shelf_check_idle, x_k_Shelf_check_idle⟩,
    f_Shelf_let_come,
    _,
    (fun_mk (st := s_Shelf_let_come) x_l_Shelf_let_come x_c_Shelf_let_come x_k_Shelf_let_come),
    (fun_mk (st := s_Shelf_let_come) x_l_Shelf_let_come x_c_Shelf_let_come x_k_Shelf_let_come).binds (ps := p_Shelf_let_come) fun _ _ _ _ _ _ us hl => match us, hl with | [_, _], _ => rfl,
    ⟨x_a_Shelf_let_come, x_i_Shelf_let_come, x_k_Shelf_let_come⟩,
    f_Shelf_let_go,
    _,
    (fun_mk (st := s_Shelf_let_go) x_l_Shelf_let_go x_c_Shelf_let_go x_k_Shelf_let_go),
    (fun_mk (st := s_Shelf_let_go) x_l_Shelf_let_go x_c_Shelf_let_go x_k_Shelf_let_go).binds (ps := p_Shelf_let_go) fun _ _ _ _ _ _ us hl => match us, hl with | [_, _], _ => rfl,
    ⟨x_a_Shelf_let_go, x_i_Shelf_let_go, x_k_Shelf_let_go⟩,
    f_Shelf_add,
    _,
    (fun_mk (st := s_Shelf_add) x_l_Shelf_add x_c_Shelf_add x_k_Shelf_add),
    (fun_mk (st := s_Shelf_add) x_l_Shelf_add x_c_Shelf_add x_k_Shelf_add).binds (ps := p_Shelf_add) fun _ _ _ _ _ _ us hl => match us, hl with | [_, _], _ => rfl,
    ⟨x_a_Shelf_add, x_i_Shelf_add, x_k_Shelf_add⟩,
    f_Shelf_remove,
    _,
    (fun_mk (st := s_Shelf_remove) x_l_Shelf_remove x_c_Shelf_remove x_k_Shelf_remove),
    (fun_mk (st := s_Shelf_remove) x_l_Shelf_remove x_c_Shelf_remove x_k_Shelf_remove).binds (ps := p_Shelf_remove) fun _ _ _ _ _ _ us hl => match us, hl with | [_, _], _ => rfl,
    ⟨x_a_Shelf_remove, x_i_Shelf_remove, x_k_Shelf_remove⟩,
    f_Shelf_undo,
    _,
    (fun_mk (st := s_Shelf_undo) x_l_Shelf_undo x_c_Shelf_undo x_k_Shelf_undo),
    (fun_mk (st := s_Shelf_undo) x_l_Shelf_undo x_c_Shelf_undo x_k_Shelf_undo).binds (ps := p_Shelf_undo) fun _ _ _ _ _ _ us hl => match us, hl with | [_], _ => rfl,
    ⟨x_a_Shelf_undo, x_i_Shelf_undo, x_k_Shelf_undo⟩,
    f_Shelf_trial,
    _,
    (fun_mk (st := s_Shelf_trial) x_l_Shelf_trial x_c_Shelf_trial x_k_Shelf_trial),
    (fun_mk (st := s_Shelf_trial) x_l_Shelf_trial x_c_Shelf_trial x_k_Shelf_trial).binds (ps := p_Shelf_trial) fun _ _ _ _ _ _ us hl => match us, hl with | [_], _ => rfl,
    ⟨x_a_Shelf_trial, x_i_Shelf_trial, x_k_Shelf_trial⟩,
    f_Shelf___len__,
    _,
    (fun_mk (st := s_Shelf___len__) x_l_Shelf___len__ x_c_Shelf___len__ x_k_Shelf___len__),
    (fun_mk (st := s_Shelf___len__) x_l_Shelf___len__ x_c_Shelf___len__ x_k_Shelf___len__).binds (ps := p_Shelf___len__) fun _ _ _ _ _ _ us hl => match us, hl with | [_], _ => rfl,
    ⟨x_a_Shelf___len__, x_i_Shelf___len__, x_k_Shelf___len__⟩,
    f_Shelf___repr__,
    _,
    (fun_mk (st := s_Shelf___repr__) x_l_Shelf___repr__ x_c_Shelf___repr__ x_k_Shelf___repr__),
    (fun_mk (st := s_Shelf___repr__) x_l_Shelf___repr__ x_c_Shelf___repr__ x_k_Shelf___repr__).binds (ps := p_Shelf___repr__) fun _ _ _ _ _ _ us hl => match us, hl with | [_], _ => rfl,
    ⟨x_a_Shelf___repr__, x_i_Shelf___repr__, x_k_Shelf___repr__⟩,
    f_is_integer,
    _,
    (fun_mk (st := s_is_integer) x_l_is_integer x_c_is_integer x_k_is_integer),
    (fun_mk (st := s_is_integer) x_l_is_integer x_c_is_integer x_k_is_integer).binds (ps := p_is_integer) fun _ _ _ _ _ _ us hl => match us, hl with | [_], _ => rfl,
    PySem.W.mg_of X G x_a_is_integer,
    f_is_text,
    _,
    (fun_mk (st := s_is_text) x_l_is_text x_c_is_text x_k_is_text),
    (fun_mk (st := s_is_text) x_l_is_text x_c_is_text x_k_is_text).binds (ps := p_is_text) fun _ _ _ _ _ _ us hl => match us, hl with | [_, _], _ => rfl,
    PySem.W.mg_of X G x_a_is_text,
    f_check_text,
    _,
    (fun_mk (st := s_check_text) x_l_check_text x_c_check_text x_k_check_text),
    (fun_mk (st := s_check_text) x_l_check_text x_c_check_text x_k_check_text).binds (ps := p_check_text) fun _ _ _ _ _ _ us hl => match us, hl with | [_], _ => rfl,
    PySem.W.mg_of X G x_a_check_text,
    f_check_namer,
    _,
    (fun_mk (st := s_check_namer) x_l_check_namer x_c_check_namer x_k_check_namer),
    (fun_mk (st := s_check_namer) x_l_check_namer x_c_check_namer x_k_check_namer).binds (ps := p_check_namer) fun _ _ _ _ _ _ us hl => match us, hl with | [_], _ => rfl,
    PySem.W.mg_of X G x_a_check_namer,
    f_check_deeds,
    _,
    (fun_mk (st := s_check_deeds) x_l_check_deeds x_c_check_deeds x_k_check_deeds),
    (fun_mk (st := s_check_deeds) x_l_check_deeds x_c_check_deeds x_k_check_deeds).binds (ps := p_check_deeds) fun _ _ _ _ _ _ us hl => match us, hl with | [_], _ => rfl,
    PySem.W.mg_of X G x_a_check_deeds,
    f__law_source,
    _,
    (fun_mk (st := s__law_source) x_l__law_source x_c__law_source x_k__law_source),
    (fun_mk (st := s__law_source) x_l__law_source x_c__law_source x_k__law_source).binds (ps := p__law_source) fun _ _ _ _ _ _ us hl => match us, hl with | [_, _], _ => rfl,
    PySem.W.mg_of X G x_a__law_source,
    f__law_draw,
    _,
    (fun_mk (st := s__law_draw) x_l__law_draw x_c__law_draw x_k__law_draw),
    (fun_mk (st := s__law_draw) x_l__law_draw x_c__law_draw x_k__law_draw).binds (ps := p__law_draw) fun _ _ _ _ _ _ us hl => match us, hl with | [_, _], _ => rfl,
    PySem.W.mg_of X G x_a__law_draw,
    f__law_one,
    _,
    (fun_mk (st := s__law_one) x_l__law_one x_c__law_one x_k__law_one),
    (fun_mk (st := s__law_one) x_l__law_one x_c__law_one x_k__law_one).binds (ps := p__law_one) fun _ _ _ _ _ _ us hl => match us, hl with | [_, _], _ => rfl,
    PySem.W.mg_of X G x_a__law_one,
    f__law_stem,
    _,
    (fun_mk (st := s__law_stem) x_l__law_stem x_c__law_stem x_k__law_stem),
    (fun_mk (st := s__law_stem) x_l__law_stem x_c__law_stem x_k__law_stem).binds (ps := p__law_stem) fun _ _ _ _ _ _ us hl => match us, hl with | [_, _], _ => rfl,
    PySem.W.mg_of X G x_a__law_stem,
    f__law_word,
    _,
    (fun_mk (st := s__law_word) x_l__law_word x_c__law_word x_k__law_word),
    (fun_mk (st := s__law_word) x_l__law_word x_c__law_word x_k__law_word).binds (ps := p__law_word) fun _ _ _ _ _ _ us hl => match us, hl with | [_, _], _ => rfl,
    PySem.W.mg_of X G x_a__law_word,
    f__law_numbered,
    _,
    (fun_mk (st := s__law_numbered) x_l__law_numbered x_c__law_numbered x_k__law_numbered),
    (fun_mk (st := s__law_numbered) x_l__law_numbered x_c__law_numbered x_k__law_numbered).binds (ps := p__law_numbered) fun _ _ _ _ _ _ us hl => match us, hl with | [_, _, _, _], _ => rfl,
    PySem.W.mg_of X G x_a__law_numbered,
    f__law_name,
    _,
    (fun_mk (st := s__law_name) x_l__law_name x_c__law_name x_k__law_name),
    (fun_mk (st := s__law_name) x_l__law_name x_c__law_name x_k__law_name).binds (ps := p__law_name) fun _ _ _ _ _ _ us hl => match us, hl with | [_, _, _, _], _ => rfl,
    PySem.W.mg_of X G x_a__law_name,
    f__law_refusal,
    _,
    (fun_mk (st := s__law_refusal) x_l__law_refusal x_c__law_refusal x_k__law_refusal),
    (fun_mk (st := s__law_refusal) x_l__law_refusal x_c__law_refusal x_k__law_refusal).binds (ps := p__law_refusal) fun _ _ _ _ _ _ us hl => match us, hl with | [_], _ => rfl,
    PySem.W.mg_of X G x_a__law_refusal,
    f__law_tried,
    _,
    (fun_mk (st := s__law_tried) x_l__law_tried x_c__law_tried x_k__law_tried),
    (fun_mk (st := s__law_tried) x_l__law_tried x_c__law_tried x_k__law_tried).binds (ps := p__law_tried) fun _ _ _ _ _ _ us hl => match us, hl with | [_], _ => rfl,
    PySem.W.mg_of X G x_a__law_tried,
    f__law_is,
    _,
    (fun_mk (st := s__law_is) x_l__law_is x_c__law_is x_k__law_is),
    (fun_mk (st := s__law_is) x_l__law_is x_c__law_is x_k__law_is).binds (ps := p__law_is) fun _ _ _ _ _ _ us hl => match us, hl with | [_, _], _ => rfl,
    PySem.W.mg_of X G x_a__law_is,
    f__law_added,
    _,
    (fun_mk (st := s__law_added) x_l__law_added x_c__law_added x_k__law_added),
    (fun_mk (st := s__law_added) x_l__law_added x_c__law_added x_k__law_added).binds (ps := p__law_added) fun _ _ _ _ _ _ us hl => match us, hl with | [_, _, _, _], _ => rfl,
    PySem.W.mg_of X G x_a__law_added,
    f__law_removed,
    _,
    (fun_mk (st := s__law_removed) x_l__law_removed x_c__law_removed x_k__law_removed),
    (fun_mk (st := s__law_removed) x_l__law_removed x_c__law_removed x_k__law_removed).binds (ps := p__law_removed) fun _ _ _ _ _ _ us hl => match us, hl with | [_, _], _ => rfl,
    PySem.W.mg_of X G x_a__law_removed,
    f__law_shelf_is,
    _,
    (fun_mk (st := s__law_shelf_is) x_l__law_shelf_is x_c__law_shelf_is x_k__law_shelf_is),
    (fun_mk (st := s__law_shelf_is) x_l__law_shelf_is x_c__law_shelf_is x_k__law_shelf_is).binds (ps := p__law_shelf_is) fun _ _ _ _ _ _ us hl => match us, hl with | [_, _, _], _ => rfl,
    PySem.W.mg_of X G x_a__law_shelf_is,
    f__law_added_right,
    _,
    (fun_mk (st := s__law_added_right) x_l__law_added_right x_c__law_added_right x_k__law_added_right),
    (fun_mk (st := s__law_added_right) x_l__law_added_right x_c__law_added_right x_k__law_added_right).binds (ps := p__law_added_right) fun _ _ _ _ _ _ us hl => match us, hl with | [_, _, _, _, _], _ => rfl,
    PySem.W.mg_of X G x_a__law_added_right,
    f__law_removed_right,
    _,
    (fun_mk (st := s__law_removed_right) x_l__law_removed_right x_c__law_removed_right x_k__law_removed_right),
    (fun_mk (st := s__law_removed_right) x_l__law_removed_right x_c__law_removed_right x_k__law_removed_right).binds (ps := p__law_removed_right) fun _ _ _ _ _ _ us hl => match us, hl with | [_, _, _], _ => rfl,
    PySem.W.mg_of X G x_a__law_removed_right,
    f__law_step,
    _,
    (fun_mk (st := s__law_step) x_l__law_step x_c__law_step x_k__law_step),
    (fun_mk (st := s__law_step) x_l__law_step x_c__law_step x_k__law_step).binds (ps := p__law_step) fun _ _ _ _ _ _ us hl => match us, hl with | [_, _, _, _, _, _], _ => rfl,
    PySem.W.mg_of X G x_a__law_step,
    f_law,
    _,
    (fun_mk (st := s_law) x_l_law x_c_law x_k_law),
    (fun_mk (st := s_law) x_l_law x_c_law x_k_law).binds (ps := p_law) fun _ _ _ _ _ _ us hl => match us, hl with | [_], _ => rfl,
    PySem.W.mg_of X G x_a_law,
    cc__law_added_right,
    PP__law_added_right,
    x_me_cd__law_added_right,
    x_me_hd__law_added_right,
    x_me_np__law_added_right,
    x_me_ps__law_added_right,
    cc__law_removed_right,
    PP__law_removed_right,
    x_me_cd__law_removed_right,
    x_me_hd__law_removed_right,
    x_me_np__law_removed_right,
    x_me_ps__law_removed_right,
    x_me_pd__law_removed_right__law_added_right,
    cc__law_step,
    PP__law_step,
    x_me_cd__law_step,
    x_me_hd__law_step,
    x_me_np__law_step,
    x_me_ps__law_step,
    x_me_pd__law_step__law_added_right,
    x_me_pd__law_step__law_removed_right,
    cc_law,
    PP_law,
    x_me_cd_law,
    x_me_hd_law,
    x_me_np_law,
    x_me_ps_law,
    x_me_pd_law__law_added_right,
    x_me_pd_law__law_removed_right,
    x_me_pd_law__law_step⟩, rfl, x_tab__law_added_right, x_tab__law_removed_right, x_tab__law_step, x_tab_law⟩
/-- the tables of the code objects, in the written part -/
structure TBs {K : PySem.W.Frag} {mg : Str → Option Value} (T : Tx K mg) (base : Heap) : Prop where
  t__law_added_right : LamX.TabB base mg T.cc__law_added_right T.PP__law_added_right
  t__law_removed_right : LamX.TabB base mg T.cc__law_removed_right T.PP__law_removed_right
  t__law_step : LamX.TabB base mg T.cc__law_step T.PP__law_step
  t_law : LamX.TabB base mg T.cc_law T.PP_law
/-- .. in the store, with the dict of the modules -/
structure TMs {K : PySem.W.Frag} {mg : Str → Option Value} (T : Tx K mg) (M : Mem) : Prop where
  t__law_added_right : M T.PP__law_added_right = some (.tab (lamN "_law_added_right"))
  t__law_removed_right : M T.PP__law_removed_right = some (.tab (lamN "_law_removed_right"))
  t__law_step : M T.PP__law_step = some (.tab (lamN "_law_step"))
  t_law : M T.PP_law = some (.tab (lamN "law"))
  sys : M sysModules = some .sys
theorem TMs.set {K : PySem.W.Frag} {mg : Str → Option Value} {T : Tx K mg} {M : Mem} {a : Addr} (t : TMs T M) (h : M a = none) (o : MO) : TMs T (mset M a o) :=
  ⟨(mset_ne (Ne.symm (V.mneN h t.t__law_added_right))).trans t.t__law_added_right, (mset_ne (Ne.symm (V.mneN h t.t__law_removed_right))).trans t.t__law_removed_right, (mset_ne (Ne.symm (V.mneN h t.t__law_step))).trans t.t__law_step, (mset_ne (Ne.symm (V.mneN h t.t_law))).trans t.t_law, (mset_ne (Ne.symm (V.mneN h t.sys))).trans t.sys⟩
theorem TMs.chg {K : PySem.W.Frag} {mg : Str → Option Value} {T : Tx K mg} {M : Mem} {a : Addr} {o0 : MO} (t : TMs T M) (h : M a = some o0) (h0 : V.noTab o0) (o : MO) : TMs T (mset M a o) :=
  ⟨(mset_ne (Ne.symm (V.mneT h h0 t.t__law_added_right))).trans t.t__law_added_right, (mset_ne (Ne.symm (V.mneT h h0 t.t__law_removed_right))).trans t.t__law_removed_right, (mset_ne (Ne.symm (V.mneT h h0 t.t__law_step))).trans t.t__law_step, (mset_ne (Ne.symm (V.mneT h h0 t.t_law))).trans t.t_law, (mset_ne (Ne.symm (V.mneS h h0 t.sys))).trans t.sys⟩
def Ts {K : PySem.W.Frag} {mg : Str → Option Value} (T : Tx K mg) : List (Addr × Str) := [(T.PP__law_added_right, lamN "_law_added_right"), (T.PP__law_removed_right, lamN "_law_removed_right"), (T.PP__law_step, lamN "_law_step"), (T.PP_law, lamN "law")]
def Cs {K : PySem.W.Frag} {mg : Str → Option Value} (T : Tx K mg) : List (Addr × Addr) := [(T.cc__law_added_right, T.PP__law_added_right), (T.cc__law_removed_right, T.PP__law_removed_right), (T.cc__law_step, T.PP__law_step), (T.cc_law, T.PP_law)]
theorem tms_M0 {K : PySem.W.Frag} {mg : Str → Option Value} (T : Tx K mg) : TMs T (V.M0 (Ts T)) := by
  refine ⟨?_, ?_, ?_, ?_, if_pos rfl⟩
  · refine (if_neg (V.ne_of_beqF T.ps__law_added_right)).trans ?_
    simp only [Ts, List.lookup, beq_self_eq_true, Option.map_some]
  · refine (if_neg (V.ne_of_beqF T.ps__law_removed_right)).trans ?_
    simp only [Ts, List.lookup, T.pd__law_removed_right__law_added_right, beq_self_eq_true, Option.map_some]
  · refine (if_neg (V.ne_of_beqF T.ps__law_step)).trans ?_
    simp only [Ts, List.lookup, T.pd__law_step__law_added_right, T.pd__law_step__law_removed_right, beq_self_eq_true, Option.map_some]
  · refine (if_neg (V.ne_of_beqF T.ps_law)).trans ?_
    simp only [Ts, List.lookup, T.pd_law__law_added_right, T.pd_law__law_removed_right, T.pd_law__law_step, beq_self_eq_true, Option.map_some]
theorem tms_hT {K : PySem.W.Frag} {mg : Str → Option Value} (T : Tx K mg) : ∀ b ∈ (Ts T).map (·.1), b ∈ (Cs T).map (·.2) := fun b hb => hb
theorem tbs_of {K : PySem.W.Frag} {mg : Str → Option Value} (T : Tx K mg) {base : Heap} (h : ∀ p ∈ Cs T, LamX.TabB base mg p.1 p.2) : TBs T base := ⟨h (T.cc__law_added_right, T.PP__law_added_right) (by simp [Cs]), h (T.cc__law_removed_right, T.PP__law_removed_right) (by simp [Cs]), h (T.cc__law_step, T.PP__law_step) (by simp [Cs]), h (T.cc_law, T.PP_law) (by simp [Cs])⟩
end G
local macro_rules | `(tactic| walk_at "go") => `(tactic| simp (config := { failIfUnchanged := false, maxSteps := 2000000 }) only [U.e_var, U.e_c, U.e_op, U.e_un, U.e_nil, U.e_cons, U.e_cb, U.e_call, U.e_tup, U.e_lst, U.e_if, U.e_andV, U.e_orV, U.e_notV, U.e_chain, U.e_test, U.e_B, U.e_and, U.e_or, U.e_not, U.e_asg, U.e_name, U.e_seq, U.e_next, U.e_ret, U.e_ifS, U.e_drop, U.e_part, U.e_noPart, U.e_sl, U.e_I0, U.e_I, U.e_exbl, U.e_exint, U.e_exstr, U.e_exsome, U.e_pair, U.e_expair, U.e_m1, U.e_m0, U.e_bm, U.e_bm0, U.e_fld, U.e_sfld, U.e_then, U.e_star, U.e_yes, U.e_gcons, U.e_gnil, U.e_gtup, U.e_gsub, U.e_make, U.e_makeK, U.e_callN, U.e_meth, U.e_kTup, U.e_lcL, U.e_lcT, U.e_lcS, U.e_lcR, U.e_lcR2, U.e_forL, U.e_forT, U.e_forR, U.e_forR2, U.e_forE, U.e_lstRg, L2.wipe, eq_self,
  U.rAddU, U.rEqU, U.rNeU, U.rLtU, U.rInU, U.rNinU, U.rIxU, U.rSlU, U.rLenU, U.rInt1, U.rI1, U.rI2, L2.rU, U.rListU, L2.scal,
  L2.start, List.map_cons, List.map_nil, List.length_cons, List.length_nil, List.cons_append, List.nil_append, List.append_nil, List.getElem?_cons_zero, List.getElem?_cons_succ, List.set_cons_zero, List.set_cons_succ, Nat.reduceAdd, Nat.reduceSub, List.reduceReplicate, Nat.zero_add,
  if_true, if_false, Bool.false_eq_true, decide_eq_true_eq, Bool.not_eq_true', decide_eq_false_iff_not, Bool.not_true, Bool.not_false, L2.V.int.injEq, L2.V.str.injEq, L2.V.bl.injEq, L2.V.ref.injEq, exists_eq_left', exists_and_left, true_and, and_true, not_true_eq_false, not_false_eq_true, reduceCtorEq])
local macro_rules | `(tactic| walk_at "lz") => `(tactic| simp (config := { failIfUnchanged := false, maxSteps := 2000000 }) only [U.e_var, U.e_c, U.e_op, U.e_un, U.e_nil, U.e_cons, U.e_cb, U.e_call, U.e_tup, U.e_lst, U.e_if, U.e_andV, U.e_orV, U.e_notV, U.e_chain, U.e_test, U.e_B, U.e_and, U.e_or, U.e_not, U.e_asg, U.e_name, U.e_seq, U.e_next, U.e_ret, U.e_ifS, U.e_drop, U.e_part, U.e_noPart, U.e_sl, U.e_I0, U.e_I, U.e_exbl, U.e_exint, U.e_exstr, U.e_exsome, U.e_pair, U.e_expair, U.e_m1, U.e_m0, U.e_bm, U.e_bm0, U.e_fld, U.e_sfld, U.e_then, U.e_star, U.e_yes, U.e_gcons, U.e_gnil, U.e_gtup, U.e_gsub, U.e_make, U.e_makeK, U.e_callN, U.e_meth, U.e_kTup, U.e_lcL, U.e_lcT, U.e_lcS, U.e_lcR, U.e_lcR2, U.e_forL, U.e_forT, U.e_forR, U.e_forR2, U.e_forE, U.e_lstRg, L2.wipe, eq_self,
  U.rEqU, U.rNeU, U.rLtU, U.rInU, U.rNinU, U.rIxU, U.rSlU, U.rLenU, U.rInt1, U.rI1, U.rI2, L2.rU, U.rListU, L2.scal,
  L2.start, List.map_cons, List.map_nil, List.length_cons, List.length_nil, List.cons_append, List.nil_append, List.append_nil, List.getElem?_cons_zero, List.getElem?_cons_succ, List.set_cons_zero, List.set_cons_succ, Nat.reduceAdd, Nat.reduceSub, List.reduceReplicate, Nat.zero_add,
  if_true, if_false, Bool.false_eq_true, decide_eq_true_eq, Bool.not_eq_true', decide_eq_false_iff_not, Bool.not_true, Bool.not_false, L2.V.int.injEq, L2.V.str.injEq, L2.V.bl.injEq, L2.V.ref.injEq, exists_eq_left', exists_and_left, true_and, and_true, not_true_eq_false, not_false_eq_true, reduceCtorEq])
local macro_rules | `(tactic| walk_at "lx") => `(tactic| simp (config := { failIfUnchanged := false, maxSteps := 2000000 }) only [U.e_var, U.e_c, U.e_op, U.e_un, U.e_nil, U.e_cons, U.e_cb, U.e_call, U.e_tup, U.e_lst, U.e_if, U.e_andV, U.e_orV, U.e_notV, U.e_chain, U.e_test, U.e_B, U.e_and, U.e_or, U.e_not, U.e_asg, U.e_name, U.e_seq, U.e_next, U.e_ret, U.e_ifS, U.e_drop, U.e_part, U.e_noPart, U.e_sl, U.e_I0, U.e_I, U.e_exbl, U.e_exint, U.e_exstr, U.e_exsome, U.e_pair, U.e_expair, U.e_m1, U.e_m0, U.e_bm, U.e_bm0, U.e_fld, U.e_sfld, U.e_then, U.e_star, U.e_yes, U.e_gcons, U.e_gnil, U.e_gtup, U.e_gsub, U.e_make, U.e_makeK, U.e_callN, U.e_meth, U.e_kTup, U.e_lcL, U.e_lcT, U.e_lcS, U.e_lcR, U.e_lcR2, U.e_forL, U.e_forT, U.e_forR, U.e_forR2, U.e_forE, U.e_lstRg, L2.wipe, eq_self,
  U.rLtU, U.rInU, U.rNinU, U.rSlU, U.rLenU, U.rInt1, U.rI1, U.rI2, L2.rU, U.rListU, L2.scal,
  L2.start, List.map_cons, List.map_nil, List.length_cons, List.length_nil, List.cons_append, List.nil_append, List.append_nil, List.getElem?_cons_zero, List.getElem?_cons_succ, List.set_cons_zero, List.set_cons_succ, Nat.reduceAdd, Nat.reduceSub, List.reduceReplicate, Nat.zero_add,
  if_true, if_false, Bool.false_eq_true, decide_eq_true_eq, Bool.not_eq_true', decide_eq_false_iff_not, Bool.not_true, Bool.not_false, L2.V.int.injEq, L2.V.str.injEq, L2.V.bl.injEq, L2.V.ref.injEq, exists_eq_left', exists_and_left, true_and, and_true, not_true_eq_false, not_false_eq_true, reduceCtorEq])
local macro_rules | `(tactic| walk_at "ly") => `(tactic| simp (config := { failIfUnchanged := false, maxSteps := 2000000 }) only [U.e_var, U.e_c, U.e_op, U.e_un, U.e_nil, U.e_cons, U.e_cb, U.e_call, U.e_tup, U.e_lst, U.e_if, U.e_andV, U.e_orV, U.e_notV, U.e_chain, U.e_test, U.e_B, U.e_and, U.e_or, U.e_not, U.e_asg, U.e_name, U.e_seq, U.e_next, U.e_ret, U.e_ifS, U.e_drop, U.e_part, U.e_noPart, U.e_sl, U.e_I0, U.e_I, U.e_exbl, U.e_exint, U.e_exstr, U.e_exsome, U.e_pair, U.e_expair, U.e_m1, U.e_m0, U.e_bm, U.e_bm0, U.e_fld, U.e_sfld, U.e_then, U.e_star, U.e_yes, U.e_gcons, U.e_gnil, U.e_gtup, U.e_gsub, U.e_make, U.e_makeK, U.e_callN, U.e_meth, U.e_kTup, U.e_lcL, U.e_lcT, U.e_lcS, U.e_lcR, U.e_lcR2, U.e_forL, U.e_forT, U.e_forR, U.e_forR2, U.e_forE, U.e_lstRg, L2.wipe, eq_self,
  U.rSlU, U.rInt1, U.rI1, U.rI2, L2.rU, U.rListU, L2.scal,
  L2.start, List.map_cons, List.map_nil, List.length_cons, List.length_nil, List.cons_append, List.nil_append, List.append_nil, List.getElem?_cons_zero, List.getElem?_cons_succ, List.set_cons_zero, List.set_cons_succ, Nat.reduceAdd, Nat.reduceSub, List.reduceReplicate, Nat.zero_add,
  if_true, if_false, Bool.false_eq_true, decide_eq_true_eq, Bool.not_eq_true', decide_eq_false_iff_not, Bool.not_true, Bool.not_false, L2.V.int.injEq, L2.V.str.injEq, L2.V.bl.injEq, L2.V.ref.injEq, exists_eq_left', exists_and_left, true_and, and_true, not_true_eq_false, not_false_eq_true, reduceCtorEq])
local macro_rules | `(tactic| walk_at "lw") => `(tactic| simp (config := { failIfUnchanged := false, maxSteps := 2000000 }) only [U.e_var, U.e_c, U.e_op, U.e_un, U.e_nil, U.e_cons, U.e_cb, U.e_call, U.e_tup, U.e_lst, U.e_if, U.e_andV, U.e_orV, U.e_notV, U.e_chain, U.e_test, U.e_B, U.e_and, U.e_or, U.e_not, U.e_asg, U.e_name, U.e_seq, U.e_next, U.e_ret, U.e_ifS, U.e_drop, U.e_part, U.e_noPart, U.e_sl, U.e_I0, U.e_I, U.e_exbl, U.e_exint, U.e_exstr, U.e_exsome, U.e_pair, U.e_expair, U.e_m1, U.e_m0, U.e_bm, U.e_bm0, U.e_fld, U.e_sfld, U.e_then, U.e_star, U.e_yes, U.e_gcons, U.e_gnil, U.e_gtup, U.e_gsub, U.e_make, U.e_makeK, U.e_callN, U.e_meth, U.e_lcL, U.e_lcT, U.e_lcS, U.e_lcR, U.e_lcR2, U.e_forL, U.e_forT, U.e_forR, U.e_forR2, U.e_forE, U.e_lstRg, L2.wipe, eq_self,
  U.rInt1, U.rI1, U.rI2, L2.rU, U.rListU, L2.scal,
  L2.start, List.map_cons, List.map_nil, List.length_cons, List.length_nil, List.cons_append, List.nil_append, List.append_nil, List.getElem?_cons_zero, List.getElem?_cons_succ, List.set_cons_zero, List.set_cons_succ, Nat.reduceAdd, Nat.reduceSub, List.reduceReplicate, Nat.zero_add,
  if_true, if_false, Bool.false_eq_true, decide_eq_true_eq, Bool.not_eq_true', decide_eq_false_iff_not, Bool.not_true, Bool.not_false, L2.V.int.injEq, L2.V.str.injEq, L2.V.bl.injEq, L2.V.ref.injEq, exists_eq_left', exists_and_left, true_and, and_true, not_true_eq_false, not_false_eq_true, reduceCtorEq])
local macro_rules | `(tactic| walk_at "vmem") => `(tactic| (first | assumption | exact V.mset_same | exact V.mset_get2 (by assumption) | exact (V.mset_ne (by assumption)).trans (by assumption) | exact (V.mset_ne (by assumption)).trans V.mset_same | exact (V.mset_ne (by assumption)).trans ((V.mset_ne (by assumption)).trans (by assumption))))
local macro_rules | `(tactic| walk_at "vset") => `(tactic| (first | exact V.mset_set | exact V.mset_set2 (by assumption) | exact rfl))
local macro_rules | `(tactic| walk_at "dw") => `(tactic| (repeat (first | (with_reducible (first | refine V.x_seq ?_ | refine V.x_op ?_ | refine V.x_cons ?_ | refine V.x_nil ?_ | refine V.x_c ?_ | refine V.x_tup ?_ | refine V.x_lst ?_ | refine V.x_lstM ?_ | refine V.x_if ?_ | refine V.x_B ?_ | refine V.x_and ?_ | refine V.x_or ?_ | refine V.x_not ?_ | refine V.x_andV ?_ | refine V.x_orV ?_ | refine V.x_notV ?_ | refine V.x_chain ?_ | refine V.x_cb ?_ | refine V.x_then ?_ | refine V.x_star ?_ | refine V.x_part ?_ | refine V.x_noPart ?_ | refine V.x_sl ?_ | refine V.x_fld ?_ | refine V.x_sfld ?_ | refine V.x_neg ?_ | refine V.x_join ?_ | refine V.x_append ?_ | refine V.x_lstRg ?_ | refine V.x_rg1 ?_ | refine V.x_rg2 ?_ | refine V.x_revL ?_ | refine V.x_joinF ?_ | refine V.x_call ?_ | refine V.x_callN ?_ | refine V.x_meth ?_ | refine V.x_makeK ?_ | refine V.x_lc ?_ | refine V.x_yes ?_ | refine V.x_next ?_ | refine V.x_break ?_ | refine V.x_cont ?_ | refine V.x_drop ?_ | refine V.x_ret ?_ | refine V.x_retN ?_ | refine V.x_ifS ?_ | refine V.x_asg ?_ | refine V.x_gN ?_ | refine V.x_par ?_ | refine V.x_for ?_ | refine V.x_gs1 ?_ | refine V.x_gs0 ?_ | refine V.x_iL ?_ | refine V.x_iT ?_ | refine V.x_iS ?_ | refine V.x_iR1 ?_ | refine V.x_iR2 ?_ | refine V.x_diL ?_ | refine V.x_bl ?_ | refine V.x_int ?_ | refine V.x_int2 ?_ | refine V.x_str0 ?_ | refine V.x_two ?_ | refine V.x_tr ?_ | refine V.x_addI ?_ | refine V.x_I1 ?_ | refine V.x_ltI ?_ | refine V.x_eqI ?_ | refine V.x_eqS ?_ | refine V.x_neI ?_ | refine V.x_neS ?_ | refine V.x_isN ?_ | refine V.x_notN ?_ | refine V.x_isB ?_ | refine V.x_notB ?_ | refine V.x_lenT ?_ | refine V.x_lenL ?_ | refine V.x_listL ?_ | refine V.x_listT ?_ | refine V.x_tupL ?_ | refine V.x_tupT ?_ | refine V.x_int1 ?_ | refine V.x_int21 ?_ | refine V.x_slT ?_ | refine V.x_slL ?_ | refine V.x_all ?_ | refine V.x_tfE ?_ | refine V.x_tfF ?_ | refine V.x_tupE ?_ | refine V.x_strE ?_ | refine V.x_r1 ?_ | refine V.x_r2 ?_ | refine V.x_true ?_ | refine V.x_false ?_ | refine V.x_nfalse ?_ | refine V.x_ntrue ?_ | refine V.x_iET ?_ | refine V.x_iE ?_ | refine V.x_iZ ?_ | refine V.x_tf1 ?_ | refine V.x_tf1F ?_ | refine V.x_tup1 ?_ | refine V.x_lst1 ?_ | refine V.x_lst2 ?_ | refine V.x_starT ?_ | refine V.x_starF ?_ | refine V.x_starL ?_ | refine V.x_eqIN ?_ | refine V.x_eqNI ?_ | refine V.x_eqSN ?_ | refine V.x_eqNS ?_ | refine V.x_eqNN ?_ | refine V.x_eqBB ?_ | refine V.x_neIN ?_ | refine V.x_neNI ?_ | refine V.x_neSN ?_ | refine V.x_neNS ?_ | refine V.x_neNN ?_ | refine V.x_neBB ?_ | refine V.x_iZT ?_ | refine V.x_tup2 ?_ | refine V.x_par3 ?_ | refine V.x_three ?_ | refine V.x_tupF ?_ | refine V.x_tfL ?_ | refine V.x_lstRgM ?_ | refine V.x_callX ?_ | refine V.x_callNX ?_ | refine V.x_raiseX ?_ | refine V.x_dnewE ?_)) | ((with_reducible refine' V.x_var ?_ ?_); rotate_left; exact rfl) | ((with_reducible refine' V.x_aug ?_ ?_); rotate_left; exact rfl) | ((with_reducible refine' V.x_lamE ?_ ?_); assumption) | ((with_reducible refine' V.x_gT ?_ ?_); exact rfl) | ((with_reducible refine' And.intro (a := _ ≤ PySem.sizeLine) ?_ ?_); exact Nat.le_of_ble_eq_true rfl) | ((with_reducible refine' V.x_ixT ?_ ?_); rotate_left; exact rfl) | ((with_reducible refine' V.x_ixL ?_ ?_); rotate_left; exact rfl) | ((with_reducible refine' V.x_iteT ?_ ?_); (first | omega | (simp only [List.length_cons, List.length_nil, List.length_map, List.length_append]; omega))) | ((with_reducible refine' V.x_iteF ?_ ?_); (first | omega | (simp only [List.length_cons, List.length_nil, List.length_map, List.length_append]; omega))) | ((with_reducible refine' V.x_itenT ?_ ?_); (first | omega | (simp only [List.length_cons, List.length_nil, List.length_map, List.length_append]; omega))) | ((with_reducible refine' V.x_itenF ?_ ?_); (first | omega | (simp only [List.length_cons, List.length_nil, List.length_map, List.length_append]; omega))) | ((with_reducible refine' V.x_sfldQ ?_ ?_ ?_ ?_); assumption; assumption; exact Nat.le_of_ble_eq_true rfl) | ((with_reducible refine' V.x_sfldP ?_ ?_ ?_ ?_ ?_); rotate_left 2; assumption; assumption; assumption; exact Nat.le_of_ble_eq_true rfl) | ((with_reducible refine' V.x_fldI 0 ?_ ?_ ?_ ?_ ?_ ?_); rotate_left; exact rfl; exact rfl; assumption; assumption; decide +kernel) | ((with_reducible refine' V.x_fldI 1 ?_ ?_ ?_ ?_ ?_ ?_); rotate_left; exact rfl; exact rfl; assumption; assumption; decide +kernel) | ((with_reducible refine' V.x_fldI 2 ?_ ?_ ?_ ?_ ?_ ?_); rotate_left; exact rfl; exact rfl; assumption; assumption; decide +kernel) | ((with_reducible refine' V.x_fldI 3 ?_ ?_ ?_ ?_ ?_ ?_); rotate_left; exact rfl; exact rfl; assumption; assumption; decide +kernel) | ((with_reducible refine' V.x_fldI 4 ?_ ?_ ?_ ?_ ?_ ?_); rotate_left; exact rfl; exact rfl; assumption; assumption; decide +kernel) | ((with_reducible refine' V.x_fldI 5 ?_ ?_ ?_ ?_ ?_ ?_); rotate_left; exact rfl; exact rfl; assumption; assumption; decide +kernel) | ((with_reducible refine' V.x_fldI 6 ?_ ?_ ?_ ?_ ?_ ?_); rotate_left; exact rfl; exact rfl; assumption; assumption; decide +kernel) | ((with_reducible refine' V.x_fldQ 0 ?_ ?_ ?_ ?_ ?_ ?_ ?_); rotate_left 3; assumption; exact rfl; exact rfl; assumption; assumption; (first | decide +kernel | (simp only [List.map_cons, List.map_nil]; decide +kernel))) | ((with_reducible refine' V.x_fldQ 1 ?_ ?_ ?_ ?_ ?_ ?_ ?_); rotate_left 3; assumption; exact rfl; exact rfl; assumption; assumption; (first | decide +kernel | (simp only [List.map_cons, List.map_nil]; decide +kernel))) | ((with_reducible refine' V.x_fldQ 2 ?_ ?_ ?_ ?_ ?_ ?_ ?_); rotate_left 3; assumption; exact rfl; exact rfl; assumption; assumption; (first | decide +kernel | (simp only [List.map_cons, List.map_nil]; decide +kernel))) | ((with_reducible refine' V.x_fldQ 3 ?_ ?_ ?_ ?_ ?_ ?_ ?_); rotate_left 3; assumption; exact rfl; exact rfl; assumption; assumption; (first | decide +kernel | (simp only [List.map_cons, List.map_nil]; decide +kernel))) | ((with_reducible refine' V.x_fldQ 4 ?_ ?_ ?_ ?_ ?_ ?_ ?_); rotate_left 3; assumption; exact rfl; exact rfl; assumption; assumption; (first | decide +kernel | (simp only [List.map_cons, List.map_nil]; decide +kernel))) | ((with_reducible refine' V.x_fldQ 5 ?_ ?_ ?_ ?_ ?_ ?_ ?_); rotate_left 3; assumption; exact rfl; exact rfl; assumption; assumption; (first | decide +kernel | (simp only [List.map_cons, List.map_nil]; decide +kernel))) | ((with_reducible refine' V.x_fldQ 6 ?_ ?_ ?_ ?_ ?_ ?_ ?_); rotate_left 3; assumption; exact rfl; exact rfl; assumption; assumption; (first | decide +kernel | (simp only [List.map_cons, List.map_nil]; decide +kernel))))))
local macro_rules | `(tactic| walk_at "dy") => `(tactic| (repeat (first | (with_reducible (first | refine V.x_seq ?_ | refine V.x_op ?_ | refine V.x_cons ?_ | refine V.x_nil ?_ | refine V.x_c ?_ | refine V.x_tup ?_ | refine V.x_lst ?_ | refine V.x_lstM ?_ | refine V.x_if ?_ | refine V.x_B ?_ | refine V.x_and ?_ | refine V.x_or ?_ | refine V.x_not ?_ | refine V.x_andV ?_ | refine V.x_orV ?_ | refine V.x_notV ?_ | refine V.x_chain ?_ | refine V.x_cb ?_ | refine V.x_then ?_ | refine V.x_star ?_ | refine V.x_part ?_ | refine V.x_noPart ?_ | refine V.x_sl ?_ | refine V.x_fld ?_ | refine V.x_sfld ?_ | refine V.x_neg ?_ | refine V.x_join ?_ | refine V.x_append ?_ | refine V.x_lstRg ?_ | refine V.x_rg1 ?_ | refine V.x_rg2 ?_ | refine V.x_revL ?_ | refine V.x_joinF ?_ | refine V.x_call ?_ | refine V.x_callN ?_ | refine V.x_meth ?_ | refine V.x_makeK ?_ | refine V.x_lc ?_ | refine V.x_yes ?_ | refine V.x_next ?_ | refine V.x_break ?_ | refine V.x_cont ?_ | refine V.x_drop ?_ | refine V.x_ret ?_ | refine V.x_retN ?_ | refine V.x_ifS ?_ | refine V.x_asg ?_ | refine V.x_for ?_ | refine V.x_gs1 ?_ | refine V.x_gs0 ?_ | refine V.x_iL ?_ | refine V.x_iT ?_ | refine V.x_iS ?_ | refine V.x_iR1 ?_ | refine V.x_iR2 ?_ | refine V.x_diL ?_ | refine V.x_bl ?_ | refine V.x_int ?_ | refine V.x_int2 ?_ | refine V.x_str0 ?_ | refine V.x_two ?_ | refine V.x_tr ?_ | refine V.x_addI ?_ | refine V.x_I1 ?_ | refine V.x_ltI ?_ | refine V.x_eqI ?_ | refine V.x_eqS ?_ | refine V.x_neI ?_ | refine V.x_neS ?_ | refine V.x_isN ?_ | refine V.x_notN ?_ | refine V.x_isB ?_ | refine V.x_notB ?_ | refine V.x_lenT ?_ | refine V.x_lenL ?_ | refine V.x_listL ?_ | refine V.x_listT ?_ | refine V.x_tupL ?_ | refine V.x_tupT ?_ | refine V.x_int1 ?_ | refine V.x_int21 ?_ | refine V.x_slT ?_ | refine V.x_slL ?_ | refine V.x_all ?_ | refine V.x_tfE ?_ | refine V.x_tfF ?_ | refine V.x_tupE ?_ | refine V.x_strE ?_ | refine V.x_r1 ?_ | refine V.x_r2 ?_ | refine V.x_true ?_ | refine V.x_false ?_ | refine V.x_nfalse ?_ | refine V.x_ntrue ?_ | refine V.x_iET ?_ | refine V.x_iE ?_ | refine V.x_iZ ?_ | refine V.x_tf1 ?_ | refine V.x_tf1F ?_ | refine V.x_tup1 ?_ | refine V.x_lst1 ?_ | refine V.x_lst2 ?_ | refine V.x_starT ?_ | refine V.x_starF ?_ | refine V.x_starL ?_ | refine V.x_eqIN ?_ | refine V.x_eqNI ?_ | refine V.x_eqSN ?_ | refine V.x_eqNS ?_ | refine V.x_eqNN ?_ | refine V.x_eqBB ?_ | refine V.x_neIN ?_ | refine V.x_neNI ?_ | refine V.x_neSN ?_ | refine V.x_neNS ?_ | refine V.x_neNN ?_ | refine V.x_neBB ?_ | refine V.x_iZT ?_ | refine V.x_tup2 ?_ | refine V.x_three ?_ | refine V.x_tupF ?_ | refine V.x_tfL ?_ | refine V.x_lstRgM ?_ | refine V.x_callX ?_ | refine V.x_callNX ?_ | refine V.x_raiseX ?_ | refine V.x_dnewE ?_)) | ((with_reducible refine V.x_gN ?_); (try dsimp only [List.set_cons_zero, List.set_cons_succ])) | ((with_reducible refine V.x_par ?_); (try dsimp only [List.set_cons_zero, List.set_cons_succ])) | ((with_reducible refine V.x_par3 ?_); (try dsimp only [List.set_cons_zero, List.set_cons_succ])) | ((with_reducible refine' V.x_var ?_ ?_); rotate_left; exact rfl) | ((with_reducible refine' V.x_aug ?_ ?_); rotate_left; exact rfl; (try dsimp only [List.set_cons_zero, List.set_cons_succ])) | ((with_reducible refine' V.x_lamE ?_ ?_); assumption) | ((with_reducible refine' V.x_gT ?_ ?_); exact rfl) | ((with_reducible refine' And.intro (a := _ ≤ PySem.sizeLine) ?_ ?_); exact Nat.le_of_ble_eq_true rfl) | ((with_reducible refine' V.x_ixT ?_ ?_); rotate_left; exact rfl) | ((with_reducible refine' V.x_ixL ?_ ?_); rotate_left; exact rfl) | ((with_reducible refine' V.x_iteT ?_ ?_); (first | omega | (simp only [List.length_cons, List.length_nil, List.length_map, List.length_append]; omega))) | ((with_reducible refine' V.x_iteF ?_ ?_); (first | omega | (simp only [List.length_cons, List.length_nil, List.length_map, List.length_append]; omega))) | ((with_reducible refine' V.x_itenT ?_ ?_); (first | omega | (simp only [List.length_cons, List.length_nil, List.length_map, List.length_append]; omega))) | ((with_reducible refine' V.x_itenF ?_ ?_); (first | omega | (simp only [List.length_cons, List.length_nil, List.length_map, List.length_append]; omega))) | ((with_reducible refine' V.x_sfldQ ?_ ?_ ?_ ?_); assumption; assumption; exact Nat.le_of_ble_eq_true rfl) | ((with_reducible refine' V.x_sfldP ?_ ?_ ?_ ?_ ?_); rotate_left 2; assumption; assumption; assumption; exact Nat.le_of_ble_eq_true rfl) | ((with_reducible refine' V.x_fldI 0 ?_ ?_ ?_ ?_ ?_ ?_); rotate_left; exact rfl; exact rfl; assumption; assumption; decide +kernel) | ((with_reducible refine' V.x_fldI 1 ?_ ?_ ?_ ?_ ?_ ?_); rotate_left; exact rfl; exact rfl; assumption; assumption; decide +kernel) | ((with_reducible refine' V.x_fldI 2 ?_ ?_ ?_ ?_ ?_ ?_); rotate_left; exact rfl; exact rfl; assumption; assumption; decide +kernel) | ((with_reducible refine' V.x_fldI 3 ?_ ?_ ?_ ?_ ?_ ?_); rotate_left; exact rfl; exact rfl; assumption; assumption; decide +kernel) | ((with_reducible refine' V.x_fldI 4 ?_ ?_ ?_ ?_ ?_ ?_); rotate_left; exact rfl; exact rfl; assumption; assumption; decide +kernel) | ((with_reducible refine' V.x_fldI 5 ?_ ?_ ?_ ?_ ?_ ?_); rotate_left; exact rfl; exact rfl; assumption; assumption; decide +kernel) | ((with_reducible refine' V.x_fldI 6 ?_ ?_ ?_ ?_ ?_ ?_); rotate_left; exact rfl; exact rfl; assumption; assumption; decide +kernel) | ((with_reducible refine' V.x_fldQ 0 ?_ ?_ ?_ ?_ ?_ ?_ ?_); rotate_left 3; assumption; exact rfl; exact rfl; assumption; assumption; (first | decide +kernel | (simp only [List.map_cons, List.map_nil]; decide +kernel))) | ((with_reducible refine' V.x_fldQ 1 ?_ ?_ ?_ ?_ ?_ ?_ ?_); rotate_left 3; assumption; exact rfl; exact rfl; assumption; assumption; (first | decide +kernel | (simp only [List.map_cons, List.map_nil]; decide +kernel))) | ((with_reducible refine' V.x_fldQ 2 ?_ ?_ ?_ ?_ ?_ ?_ ?_); rotate_left 3; assumption; exact rfl; exact rfl; assumption; assumption; (first | decide +kernel | (simp only [List.map_cons, List.map_nil]; decide +kernel))) | ((with_reducible refine' V.x_fldQ 3 ?_ ?_ ?_ ?_ ?_ ?_ ?_); rotate_left 3; assumption; exact rfl; exact rfl; assumption; assumption; (first | decide +kernel | (simp only [List.map_cons, List.map_nil]; decide +kernel))) | ((with_reducible refine' V.x_fldQ 4 ?_ ?_ ?_ ?_ ?_ ?_ ?_); rotate_left 3; assumption; exact rfl; exact rfl; assumption; assumption; (first | decide +kernel | (simp only [List.map_cons, List.map_nil]; decide +kernel))) | ((with_reducible refine' V.x_fldQ 5 ?_ ?_ ?_ ?_ ?_ ?_ ?_); rotate_left 3; assumption; exact rfl; exact rfl; assumption; assumption; (first | decide +kernel | (simp only [List.map_cons, List.map_nil]; decide +kernel))) | ((with_reducible refine' V.x_fldQ 6 ?_ ?_ ?_ ?_ ?_ ?_ ?_); rotate_left 3; assumption; exact rfl; exact rfl; assumption; assumption; (first | decide +kernel | (simp only [List.map_cons, List.map_nil]; decide +kernel))) | (with_reducible (first | refine V.x_opX ?_ | refine V.x_split ?_)) | ((with_reducible apply V.x_callLX); exact rfl; (with_reducible exact rfl)) | ((with_reducible apply V.x_callLN); exact rfl; (with_reducible exact rfl)) | ((with_reducible refine' V.x_orL ?_); (with_reducible apply V.x_callLX); exact rfl; (with_reducible exact rfl)) | ((with_reducible refine' V.x_orL ?_); (with_reducible apply V.x_callLN); exact rfl; (with_reducible exact rfl)) | (with_reducible refine' V.x_orR ?_) | ((with_reducible apply V.x_ap1); walk_at "vmem") | ((with_reducible apply V.x_ap2); walk_at "vmem"; (simp [V.sizeLineN]); (first | rw [V.mset_set] | rw [V.mset_set2 (by assumption)] | skip)))))
local macro_rules | `(tactic| walk_at "dx") => `(tactic| (repeat (first | (with_reducible (first | refine V.x_seq ?_ | refine V.x_op ?_ | refine V.x_cons ?_ | refine V.x_nil ?_ | refine V.x_c ?_ | refine V.x_tup ?_ | refine V.x_lst ?_ | refine V.x_lstM ?_ | refine V.x_if ?_ | refine V.x_B ?_ | refine V.x_and ?_ | refine V.x_or ?_ | refine V.x_not ?_ | refine V.x_andV ?_ | refine V.x_orV ?_ | refine V.x_notV ?_ | refine V.x_chain ?_ | refine V.x_cb ?_ | refine V.x_then ?_ | refine V.x_star ?_ | refine V.x_part ?_ | refine V.x_noPart ?_ | refine V.x_sl ?_ | refine V.x_fld ?_ | refine V.x_sfld ?_ | refine V.x_neg ?_ | refine V.x_join ?_ | refine V.x_append ?_ | refine V.x_lstRg ?_ | refine V.x_rg1 ?_ | refine V.x_rg2 ?_ | refine V.x_revL ?_ | refine V.x_joinF ?_ | refine V.x_call ?_ | refine V.x_callN ?_ | refine V.x_meth ?_ | refine V.x_makeK ?_ | refine V.x_lc ?_ | refine V.x_yes ?_ | refine V.x_next ?_ | refine V.x_break ?_ | refine V.x_cont ?_ | refine V.x_drop ?_ | refine V.x_ret ?_ | refine V.x_retN ?_ | refine V.x_ifS ?_ | refine V.x_asg ?_ | refine V.x_for ?_ | refine V.x_gs1 ?_ | refine V.x_gs0 ?_ | refine V.x_iL ?_ | refine V.x_iT ?_ | refine V.x_iS ?_ | refine V.x_iR1 ?_ | refine V.x_iR2 ?_ | refine V.x_diL ?_ | refine V.x_bl ?_ | refine V.x_int ?_ | refine V.x_int2 ?_ | refine V.x_str0 ?_ | refine V.x_two ?_ | refine V.x_tr ?_ | refine V.x_addI ?_ | refine V.x_I1 ?_ | refine V.x_ltI ?_ | refine V.x_eqI ?_ | refine V.x_eqS ?_ | refine V.x_neI ?_ | refine V.x_neS ?_ | refine V.x_isN ?_ | refine V.x_notN ?_ | refine V.x_isB ?_ | refine V.x_notB ?_ | refine V.x_lenT ?_ | refine V.x_lenL ?_ | refine V.x_listL ?_ | refine V.x_listT ?_ | refine V.x_tupL ?_ | refine V.x_tupT ?_ | refine V.x_int1 ?_ | refine V.x_int21 ?_ | refine V.x_slT ?_ | refine V.x_slL ?_ | refine V.x_all ?_ | refine V.x_tfE ?_ | refine V.x_tfF ?_ | refine V.x_tupE ?_ | refine V.x_strE ?_ | refine V.x_r1 ?_ | refine V.x_r2 ?_ | refine V.x_true ?_ | refine V.x_false ?_ | refine V.x_nfalse ?_ | refine V.x_ntrue ?_ | refine V.x_iET ?_ | refine V.x_iE ?_ | refine V.x_iZ ?_ | refine V.x_tf1 ?_ | refine V.x_tf1F ?_ | refine V.x_tup1 ?_ | refine V.x_lst1 ?_ | refine V.x_lst2 ?_ | refine V.x_starT ?_ | refine V.x_starF ?_ | refine V.x_starL ?_ | refine V.x_eqIN ?_ | refine V.x_eqNI ?_ | refine V.x_eqSN ?_ | refine V.x_eqNS ?_ | refine V.x_eqNN ?_ | refine V.x_eqBB ?_ | refine V.x_neIN ?_ | refine V.x_neNI ?_ | refine V.x_neSN ?_ | refine V.x_neNS ?_ | refine V.x_neNN ?_ | refine V.x_neBB ?_ | refine V.x_iZT ?_ | refine V.x_tup2 ?_ | refine V.x_three ?_ | refine V.x_tupF ?_ | refine V.x_tfL ?_ | refine V.x_lstRgM ?_ | refine V.x_callX ?_ | refine V.x_callNX ?_ | refine V.x_raiseX ?_ | refine V.x_dnewE ?_)) | ((with_reducible refine V.x_gN ?_); (try dsimp only [List.set_cons_zero, List.set_cons_succ])) | ((with_reducible refine V.x_par ?_); (try dsimp only [List.set_cons_zero, List.set_cons_succ])) | ((with_reducible refine V.x_par3 ?_); (try dsimp only [List.set_cons_zero, List.set_cons_succ])) | ((with_reducible refine' V.x_var ?_ ?_); rotate_left; exact rfl) | ((with_reducible refine' V.x_aug ?_ ?_); rotate_left; exact rfl; (try dsimp only [List.set_cons_zero, List.set_cons_succ])) | ((with_reducible refine' V.x_lamE ?_ ?_); assumption) | ((with_reducible refine' V.x_gT ?_ ?_); exact rfl) | ((with_reducible refine' And.intro (a := _ ≤ PySem.sizeLine) ?_ ?_); exact Nat.le_of_ble_eq_true rfl) | ((with_reducible refine' V.x_ixT ?_ ?_); rotate_left; exact rfl) | ((with_reducible refine' V.x_ixL ?_ ?_); rotate_left; exact rfl) | ((with_reducible refine' V.x_iteT ?_ ?_); (first | omega | (simp only [List.length_cons, List.length_nil, List.length_map, List.length_append]; omega))) | ((with_reducible refine' V.x_iteF ?_ ?_); (first | omega | (simp only [List.length_cons, List.length_nil, List.length_map, List.length_append]; omega))) | ((with_reducible refine' V.x_itenT ?_ ?_); (first | omega | (simp only [List.length_cons, List.length_nil, List.length_map, List.length_append]; omega))) | ((with_reducible refine' V.x_itenF ?_ ?_); (first | omega | (simp only [List.length_cons, List.length_nil, List.length_map, List.length_append]; omega))) | ((with_reducible refine' V.x_sfldQ ?_ ?_ ?_ ?_); assumption; assumption; exact Nat.le_of_ble_eq_true rfl) | ((with_reducible refine' V.x_sfldP ?_ ?_ ?_ ?_ ?_); rotate_left 2; assumption; assumption; assumption; exact Nat.le_of_ble_eq_true rfl) | ((with_reducible refine' V.x_fldI 0 ?_ ?_ ?_ ?_ ?_ ?_); rotate_left; exact rfl; exact rfl; assumption; assumption; decide +kernel) | ((with_reducible refine' V.x_fldI 1 ?_ ?_ ?_ ?_ ?_ ?_); rotate_left; exact rfl; exact rfl; assumption; assumption; decide +kernel) | ((with_reducible refine' V.x_fldI 2 ?_ ?_ ?_ ?_ ?_ ?_); rotate_left; exact rfl; exact rfl; assumption; assumption; decide +kernel) | ((with_reducible refine' V.x_fldI 3 ?_ ?_ ?_ ?_ ?_ ?_); rotate_left; exact rfl; exact rfl; assumption; assumption; decide +kernel) | ((with_reducible refine' V.x_fldI 4 ?_ ?_ ?_ ?_ ?_ ?_); rotate_left; exact rfl; exact rfl; assumption; assumption; decide +kernel) | ((with_reducible refine' V.x_fldI 5 ?_ ?_ ?_ ?_ ?_ ?_); rotate_left; exact rfl; exact rfl; assumption; assumption; decide +kernel) | ((with_reducible refine' V.x_fldI 6 ?_ ?_ ?_ ?_ ?_ ?_); rotate_left; exact rfl; exact rfl; assumption; assumption; decide +kernel) | ((with_reducible refine' V.x_fldQ 0 ?_ ?_ ?_ ?_ ?_ ?_ ?_); rotate_left 3; assumption; exact rfl; exact rfl; assumption; assumption; (first | decide +kernel | (simp only [List.map_cons, List.map_nil]; decide +kernel))) | ((with_reducible refine' V.x_fldQ 1 ?_ ?_ ?_ ?_ ?_ ?_ ?_); rotate_left 3; assumption; exact rfl; exact rfl; assumption; assumption; (first | decide +kernel | (simp only [List.map_cons, List.map_nil]; decide +kernel))) | ((with_reducible refine' V.x_fldQ 2 ?_ ?_ ?_ ?_ ?_ ?_ ?_); rotate_left 3; assumption; exact rfl; exact rfl; assumption; assumption; (first | decide +kernel | (simp only [List.map_cons, List.map_nil]; decide +kernel))) | ((with_reducible refine' V.x_fldQ 3 ?_ ?_ ?_ ?_ ?_ ?_ ?_); rotate_left 3; assumption; exact rfl; exact rfl; assumption; assumption; (first | decide +kernel | (simp only [List.map_cons, List.map_nil]; decide +kernel))) | ((with_reducible refine' V.x_fldQ 4 ?_ ?_ ?_ ?_ ?_ ?_ ?_); rotate_left 3; assumption; exact rfl; exact rfl; assumption; assumption; (first | decide +kernel | (simp only [List.map_cons, List.map_nil]; decide +kernel))) | ((with_reducible refine' V.x_fldQ 5 ?_ ?_ ?_ ?_ ?_ ?_ ?_); rotate_left 3; assumption; exact rfl; exact rfl; assumption; assumption; (first | decide +kernel | (simp only [List.map_cons, List.map_nil]; decide +kernel))) | ((with_reducible refine' V.x_fldQ 6 ?_ ?_ ?_ ?_ ?_ ?_ ?_); rotate_left 3; assumption; exact rfl; exact rfl; assumption; assumption; (first | decide +kernel | (simp only [List.map_cons, List.map_nil]; decide +kernel))) | (with_reducible (first | refine V.x_opX ?_ | refine V.x_loopC ?_ | refine V.x_loopN ?_ | refine V.x_split ?_)) | ((with_reducible apply V.x_callLX); exact rfl; (with_reducible exact rfl)) | ((with_reducible apply V.x_callLN); exact rfl; (with_reducible exact rfl)) | ((with_reducible refine' V.x_orL ?_); (with_reducible apply V.x_callLX); exact rfl; (with_reducible exact rfl)) | ((with_reducible refine' V.x_orL ?_); (with_reducible apply V.x_callLN); exact rfl; (with_reducible exact rfl)) | (with_reducible refine' V.x_orR ?_) | ((with_reducible apply V.x_ap1); walk_at "vmem") | ((with_reducible apply V.x_ap2); walk_at "vmem"; (simp [V.sizeLineN]); (first | rw [V.mset_set] | rw [V.mset_set2 (by assumption)] | skip)))))
namespace G
open PySem PySem.Spec PyProof.Rows L2 U
section
variable {P : Program} {w : World} {K : PySem.W.Frag} {mg : Str → Option Value} {base : Heap}
/-- one of some things: lists, tuples or texts -/
def spOneOf (K : PySem.W.Frag) : Sp := fun vs H Q _ => ∃ (p : Addr) (v : V), vs = [.ref p, v] ∧ Pot H p ∧
  ((∃ a xs, v = .ref a ∧ (H a = some (.lst xs) ∨ H a = some (.tup xs)) ∧ 0 < xs.length ∧ xs.length < 1000000 ∧ ∀ x H', Same H H' → x ∈ xs → Q x H') ∨
   (∃ z, v = .str z ∧ 0 < z.length ∧ z.length < 1000000 ∧ ∀ c H', Same H H' → c ∈ cd z → Q (.str (one c)) H'))
end
end G
namespace G
open PySem PySem.Spec PyProof.Rows L2 U V
section
variable {P : Program} {w : World} {K : PySem.W.Frag} {mg : Str → Option Value} {base : Heap}
def tyNames : List String := ["NoneType", "bool", "int", "str", "list", "tuple", "dict"]
def spIsInteger (K : PySem.W.Frag) : DC := fun ds M R => ∃ d, ds = [d] ∧ ∃ t : String, TyD K M d (.type t) ∧ t ∈ tyNames ∧ ∃ b, (t == "int") = b ∧ R (.bl b) M
theorem okD_is_integer (T : Tx K mg) : FnOk P w K mg base L2.CX0 lv_is_integer T.f_is_integer T.d_is_integer p_is_integer (lift (spIsInteger K)) := by
  refine fnD T.F_is_integer sc_is_integer (fun ds M R h => ?_) (fun cdv A outer s H E hr => ?_)
  · first | (obtain ⟨rfl, _⟩ := h; rfl) | (obtain ⟨_, rfl, _⟩ := h; rfl) | (obtain ⟨_, _, rfl, _⟩ := h; rfl) | (obtain ⟨_, _, _, rfl, _⟩ := h; rfl) | (obtain ⟨_, _, _, _, rfl, _⟩ := h; rfl) | (obtain ⟨_, _, _, _, _, rfl, _⟩ := h; rfl) | (obtain ⟨_, _, _, _, _, _, rfl, _⟩ := h; rfl) | (obtain ⟨_, _, _, _, _, _, _, rfl, _⟩ := h; rfl) | (obtain ⟨_, _, _, _, _, _, _, _, rfl, _⟩ := h; rfl)
  · have hr64 := hr.units
    have hc_Namer := T.c_Namer
    have hi_Namer := T.i_Namer
    have hn_Namer_rule := T.na_Namer_rule
    have hn_Namer_width := T.na_Namer_width
    have hc_Shelf := T.c_Shelf
    have hi_Shelf := T.i_Shelf
    have hn_Shelf_namer := T.na_Shelf_namer
    have hn_Shelf_there := T.na_Shelf_there
    have hn_Shelf_texts := T.na_Shelf_texts
    have hn_Shelf_names := T.na_Shelf_names
    have hn_Shelf_past := T.na_Shelf_past
    have hn_Shelf_moment := T.na_Shelf_moment
    have hn_Shelf_busy := T.na_Shelf_busy
    refine ⟨_, (pss_one (ps_ret (pe_and (pe_callB (call_isiK (K := K) rfl) (by rfl) T.n_isinstance (by decide +kernel) (pa_cons (pv 0) (pa_cons (pe_bt "int" rfl T.n_int (by decide +kernel)) pa_nil))) (pe_one (pe_not (pe_callB (call_isiK (K := K) rfl) (by rfl) T.n_isinstance (by decide +kernel) (pa_cons (pv 0) (pa_cons (pe_bt "bool" rfl T.n_bool (by decide +kernel)) pa_nil)))))))), ?_⟩
    refine ⟨_, inferInstance, fun ds M R h => ?_⟩
    obtain ⟨d, rfl, t, ty, ht, _, rfl, q⟩ := h
    walk_at "dw"
    have k1 : ∀ s : String, s ∈ tyNames → kitB s "int" = some (s == "int" || s == "bool") ∧ kitB s "bool" = some (s == "bool") := by decide +kernel
    obtain ⟨k2, k3⟩ := k1 t ht
    refine ⟨_, _, ty, kit_ty k2, ?_⟩
    walk_at "dw"
    cases h1 : (t == "int" || t == "bool") with
    | true =>
      walk_at "dw"
      refine ⟨_, _, ty, kit_ty k3, ?_⟩
      walk_at "dw"
      cases h2 : (t == "bool") with
      | true =>
        have e : t = "bool" := by simpa using h2
        subst e
        exact q
      | false =>
        rw [h2, Bool.or_false] at h1
        rw [h1] at q
        exact q
    | false =>
      walk_at "dw"
      rw [Bool.or_eq_false_iff] at h1
      rw [h1.1] at q
      exact q
def spIsText (K : PySem.W.Frag) : DC := fun ds M R => ∃ d, ∃ n : Nat, ds = [d, .int n] ∧ ((∃ z, d = .str z ∧ z.length ≤ 16777216 ∧ R (.bl (okText n z)) M) ∨ ∃ t : String, TyD K M d (.type t) ∧ t ∈ tyNames ∧ t ≠ "str" ∧ R (.bl false) M)
theorem okD_is_text (T : Tx K mg) : FnOk P w K mg base L2.CX0 lv_is_text T.f_is_text T.d_is_text p_is_text (lift (spIsText K)) := by
  refine fnD T.F_is_text sc_is_text (fun ds M R h => ?_) (fun cdv A outer s H E hr => ?_)
  · first | (obtain ⟨rfl, _⟩ := h; rfl) | (obtain ⟨_, rfl, _⟩ := h; rfl) | (obtain ⟨_, _, rfl, _⟩ := h; rfl) | (obtain ⟨_, _, _, rfl, _⟩ := h; rfl) | (obtain ⟨_, _, _, _, rfl, _⟩ := h; rfl) | (obtain ⟨_, _, _, _, _, rfl, _⟩ := h; rfl) | (obtain ⟨_, _, _, _, _, _, rfl, _⟩ := h; rfl) | (obtain ⟨_, _, _, _, _, _, _, rfl, _⟩ := h; rfl) | (obtain ⟨_, _, _, _, _, _, _, _, rfl, _⟩ := h; rfl)
  · have hr64 := hr.units
    have hc_Namer := T.c_Namer
    have hi_Namer := T.i_Namer
    have hn_Namer_rule := T.na_Namer_rule
    have hn_Namer_width := T.na_Namer_width
    have hc_Shelf := T.c_Shelf
    have hi_Shelf := T.i_Shelf
    have hn_Shelf_namer := T.na_Shelf_namer
    have hn_Shelf_there := T.na_Shelf_there
    have hn_Shelf_texts := T.na_Shelf_texts
    have hn_Shelf_names := T.na_Shelf_names
    have hn_Shelf_past := T.na_Shelf_past
    have hn_Shelf_moment := T.na_Shelf_moment
    have hn_Shelf_busy := T.na_Shelf_busy
    refine ⟨_, (pss_one (ps_ret (pe_and (pe_callB (call_isiK (K := K) rfl) (by rfl) T.n_isinstance (by decide +kernel) (pa_cons (pv 0) (pa_cons (pe_bt "str" rfl T.n_str (by decide +kernel)) pa_nil))) (pe_and (pe_cmpR op_le (pe_callB (call_lenK (K := K) rfl) (by rfl) T.n_len (by decide +kernel) (pa_cons (pv 0) pa_nil)) (pv 1) (nomark _)) (pe_one (pe_callB (cr_allK (K := K) rfl rfl) (by rfl) T.n_all (by decide +kernel) (pa_cons (pe_lc (own := [("sign", 2)]) rfl sc_is_text.nd (pi_str (pv 0)) (blkOk_by (N := ["value", "most", "sign"]) (sc := L2.defScope s_is_text) (by decide +kernel)) (fun _ _ _ _ _ => (pg_name (i := 2) sc_is_text.nd rfl (by first | exact Or.inl rfl | exact Or.inr rfl))) (fun _ _ _ _ _ => pts_nil) (fun _ _ _ _ _ => (pe_cmpR (op_inK (K := K) rfl) (pv 2) (C8.pe_gc rfl T.k_SIGNS) (by rfl)))) pa_nil))))))), ?_⟩
    refine ⟨_, inferInstance, fun ds M R h => ?_⟩
    obtain ⟨d, n, rfl, h⟩ := h
    walk_at "dw"
    rcases h with ⟨z, rfl, hz, q⟩ | ⟨t, ty, ht, hs, q⟩
    · refine ⟨_, true, .str _, kit_ty (by decide +kernel), ?_⟩
      walk_at "dw"
      refine V.x_lenS ⟨by rw [sizeLine_eq]; exact hz, ?_⟩
      walk_at "dw"
      refine x_ite _ (fun c => ?_) (fun c => ?_)
      · have c' : z.length ≤ n := by exact_mod_cast c
        walk_at "dw"
        refine ⟨by rw [List.length_map, cd_len]; exact hz, ?_⟩
        refine gather_all (f := fun d => match d with | .str y => .bl (isSign (y.cps.toList.getD 0 0)) | d => d) ?_ trivial ?_
        · intro x hx Ky hy
          obtain ⟨c, hc, rfl⟩ := List.mem_map.mp hx
          walk_at "dw"
          exact ⟨c, rfl, hy⟩
        · walk_at "dw"
          refine ⟨_, (cd z).map isSign, rfl, .inl ?_, ?_⟩
          · rw [List.map_map, List.map_map]
            rfl
          · have e3 : ((cd z).map isSign).all id = okText n z := by
              unfold okText
              rw [decide_eq_true c', List.all_map]
              rfl
            rw [e3]
            exact q
      · have e3 : okText n z = false := by
          unfold okText
          rw [decide_eq_false (fun z => c (by exact_mod_cast z)), Bool.false_and]
        rw [e3] at q
        exact q
    · have k1 : ∀ s : String, s ∈ tyNames → s ≠ "str" → kitB s "str" = some false := by decide +kernel
      refine ⟨_, _, ty, kit_ty (k1 t ht hs), ?_⟩
      walk_at "dw"
      exact q
theorem cutG_to {α : Type} (xs : List α) (n : Nat) : cutG xs none (some (n : Int)) = xs.take n := by
  unfold cutG
  rw [HT.sIx_none, HT.sIx_nat, List.drop_zero, Nat.sub_zero]
  by_cases h : n ≤ xs.length
  · rw [Nat.min_eq_left h]
  · rw [Nat.min_eq_right (by omega), List.take_of_length_le (by omega), List.take_of_length_le (by omega)]
theorem cutG_from {α : Type} (xs : List α) (n : Nat) : cutG xs (some (n : Int)) none = xs.drop n := by
  unfold cutG
  rw [HT.sIx_none, HT.sIx_nat]
  by_cases h : n ≤ xs.length
  · rw [Nat.min_eq_left h]
    exact List.take_of_length_le (by rw [List.length_drop]; omega)
  · rw [Nat.min_eq_right (by omega), Nat.sub_self, List.take_zero, List.drop_eq_nil_of_le (by omega)]
end
end G
namespace G
open PySem PySem.Spec PyProof.Rows L2 U V
section
variable {P : Program} {w : World} {K : PySem.W.Frag} {mg : Str → Option Value} {base : Heap}
theorem draw_D {p : Addr} {n : Int} {M : Mem} {R : QD} (hn : 0 < n) (hn2 : n < 1073741824) (q : ∀ k : Nat, (k : Int) < n → R (.int k) M) : spDrawD [potD p, .int n] M R := ⟨p, n, rfl, ⟨hn, hn2⟩, fun r r0 r1 => by
  obtain ⟨j, rfl⟩ := Int.eq_ofNat_of_zero_le r0
  exact q j r1⟩
end
end G
namespace G
open PySem PySem.Spec PyProof.Rows L2 U V
end G
namespace G
open PySem PySem.Spec PyProof.Rows L2 U V
end G
namespace GO
open G
open PySem PySem.Spec PyProof.Rows L2 U
section
variable {P : Program} {w : World} {K : PySem.W.Frag} {mg : Str → Option Value} {base : Heap}
theorem ok1__law_draw (T : Tx K mg) : FnOk P w K mg base L2.CX0 lv__law_draw T.f__law_draw T.d__law_draw p__law_draw spDraw1 := by
  refine T.F__law_draw.ok sc__law_draw (fun vs H Q E h => ?_) (fun cdv A outer s H vs Q E hr h => ?_)
  · obtain ⟨p, n, a, b, c, rfl, _⟩ := h
    rfl
  · obtain ⟨p, n, a, b, c, rfl, hp, ⟨hn, hn2⟩, q⟩ := h
    refine ⟨_, (pss_cons (ps_asg (pe_op op_addU (pe_ix (ix_K (K := K) rfl) (pv 0) pe_int (fun _ _ => rfl)) pe_int) (pg_sub (pv 0) pe_int set_list))
        (pss_cons (ps_if (pt_cmpR op_gt (pe_ix (ix_K (K := K) rfl) (pv 0) pe_int (fun _ _ => rfl)) pe_int (nomark _)) (pss_cons (ps_asg (pe_callB call_divmod (by rfl) T.n_divmod (by decide +kernel) (pa_cons (pe_ix (ix_K (K := K) rfl) (pv 0) pe_int (fun _ _ => rfl)) (pa_cons (pv 1) pa_nil))) (pg_tupK (K := K) (n := 2) rfl rfl (pgs_cons (pg_sub (pv 0) pe_int set_list) (pgs_cons (pg_name (i := 2) sc__law_draw.nd rfl (by first | exact Or.inl rfl | exact Or.inr rfl)) pgs_nil))))
        (pss_one (ps_ret (pv 2)))) pss_nil)
        (pss_cons (ps_set (i := 3) sc__law_draw.nd rfl (by first | exact Or.inl rfl | exact Or.inr rfl) (pe_callTy call_intU (by rfl) T.n_int (by decide +kernel) (pa_cons (pe_ix (ix_K (K := K) rfl) (pv 0) pe_int (fun _ _ => rfl)) pa_nil)))
        (pss_cons (ps_set (i := 4) sc__law_draw.nd rfl (by first | exact Or.inl rfl | exact Or.inr rfl) (pe_op op_addU (pe_op op_mod (pe_callTy call_intU (by rfl) T.n_int (by decide +kernel) (pa_cons (pv 3) pa_nil)) pe_int) pe_int))
        (pss_cons (ps_asg (pe_op op_mod (pe_callTy call_intU (by rfl) T.n_int (by decide +kernel) (pa_cons (pe_op op_addU (pe_op op_addU (pe_op op_mul (pv 3) (pv 4)) (pe_op op_mul pe_int (pe_ix (ix_K (K := K) rfl) (pv 0) pe_int (fun _ _ => rfl)))) pe_int) pa_nil)) pe_int) (pg_sub (pv 0) pe_int set_list))
        (pss_one (ps_ret (pe_op op_mod (pe_op op_fdiv (pe_callTy call_intU (by rfl) T.n_int (by decide +kernel) (pa_cons (pe_ix (ix_K (K := K) rfl) (pv 0) pe_int (fun _ _ => rfl)) pa_nil)) pe_int) (pv 1))))))))), ?_⟩
    walk_at "lx"
    refine ixL hp rfl (adI ?_)
    refine ⟨p, _, 2, 2, rfl, rfl, hp, rfl, ?_⟩
    have e1 : ([V.int a, V.int b, V.int c] : List V).set 2 (V.int (c + 1)) = [.int a, .int b, .int (c + 1)] := rfl
    rw [e1]
    refine ixL upd_same rfl ?_
    walk_at "lx"
    refine ite2 (fun ca => ?_) (fun ca => ?_)
    · refine ixL upd_same rfl ?_
      refine ⟨_, _, rfl, ⟨hn, hn2⟩, fun t ht => ?_⟩
      have npt : p ≠ t := ne_of_none upd_same ht
      refine ⟨_, SqT.of upd_same, rfl, ?_⟩
      walk_at "go"
      refine ⟨p, _, 0, 0, rfl, rfl, (by rw [upd_ne npt]; exact upd_same), rfl, ?_⟩
      rw [upd_ne npt.symm] at ht
      refine q _ _ _ _ _ ?_ upd_same (Int.emod_nonneg _ (by omega)) (Int.emod_lt_of_pos _ hn)
      refine Ext.mut (Ext.new (Ext.mut (Ext.refl _) rfl) ?_) rfl
      rw [upd_ne npt.symm]
      exact ht
    · refine ixL upd_same rfl ?_
      walk_at "lx"
      have h1 := Int.emod_nonneg b (show (9973 : Int) ≠ 0 by decide)
      have h2 := Int.emod_lt_of_pos b (show (0 : Int) < 9973 by decide)
      refine ⟨by decide, adI ⟨_, _, rfl, rfl, .inr ⟨by omega, by omega⟩, ixL upd_same rfl ⟨_, _, rfl, rfl, .inl ⟨by decide, by decide⟩, adI (adI ?_)⟩⟩⟩
      walk_at "lx"
      refine ⟨by decide, ?_⟩
      refine ⟨p, _, 1, 1, rfl, rfl, upd_same, rfl, ?_⟩
      refine ixL upd_same rfl ?_
      walk_at "lx"
      refine ⟨⟨by decide, by decide⟩, hn, ?_⟩
      refine q _ _ _ _ _ ?_ upd_same (Int.emod_nonneg _ (by omega)) (Int.emod_lt_of_pos _ hn)
      exact Ext.mut (Ext.mut (Ext.refl _) rfl) rfl
theorem ok__law_draw (T : Tx K mg) : FnOk P w K mg base L2.CX0 lv__law_draw T.f__law_draw T.d__law_draw p__law_draw spDraw := fn_draw (ok1__law_draw T) rfl
/-- one of some things: lists, tuples or texts -/
def spOneOf (K : PySem.W.Frag) : Sp := fun vs H Q _ => ∃ (p : Addr) (v : V), vs = [.ref p, v] ∧ Pot H p ∧
  ((∃ a xs, v = .ref a ∧ (H a = some (.lst xs) ∨ H a = some (.tup xs)) ∧ 0 < xs.length ∧ xs.length < 1000000 ∧ ∀ x H', Same H H' → x ∈ xs → Q x H') ∨
   (∃ z, v = .str z ∧ 0 < z.length ∧ z.length < 1000000 ∧ ∀ c H', Same H H' → c ∈ cd z → Q (.str (one c)) H'))
theorem ok__law_one (T : Tx K mg) : FnOk P w K mg base L2.CX0 lv__law_one T.f__law_one T.d__law_one p__law_one (spOneOf K) := by
  refine T.F__law_one.ok sc__law_one (fun vs H Q E h => ?_) (fun cdv A outer s H vs Q E hr h => ?_)
  · obtain ⟨p, v, rfl, _⟩ := h
    rfl
  · obtain ⟨p, v, rfl, hp, h⟩ := h
    refine ⟨_, (pss_one (ps_ret (pe_ix (ix_K (K := K) rfl) (pv 1) (pe_call (ok__law_draw T) (hr.mono (by decide)) rfl T.m__law_draw T.F__law_draw.kp T.b__law_draw .nil pass0 (pa_cons (pv 0) (pa_cons (pe_callB (call_lenK (K := K) rfl) (by rfl) T.n_len (by decide +kernel) (pa_cons (pv 1) pa_nil)) pa_nil))) (fun _ _ => rfl)))), ?_⟩
    walk_at "go"
    rcases h with ⟨a, xs, rfl, ha, h0, h1, q⟩ | ⟨z, rfl, h0, h1, q⟩
    · have hq : ∀ H', Same H H' → SqL K H' a xs ∨ SqT K H' a xs := fun H' e => by
        rcases ha with ha | ha
        · exact .inl (SqL.of (e _ _ ha))
        · exact .inr (SqT.of (e _ _ ha))
      refine ⟨xs, hq H (Same.refl _), p, _, rfl, hp, ⟨by omega, by omega⟩, fun r H' hS hr0 hr1 => ?_⟩
      obtain ⟨j, rfl⟩ := Int.eq_ofNat_of_zero_le hr0
      have hj : j < xs.length := by omega
      refine ⟨xs, hq H' hS, xs[j], atI_nat (by simp [hj]), q _ _ hS (List.getElem_mem hj)⟩
    · walk_at "go"
      refine ⟨by rw [sizeLine_eq]; omega, p, _, rfl, hp, ⟨by omega, by omega⟩, fun r H' hS hr0 hr1 => ?_⟩
      obtain ⟨j, rfl⟩ := Int.eq_ofNat_of_zero_le hr0
      have hj : j < (cd z).length := by rw [cd_len]; omega
      exact ⟨by rw [sizeLine_eq]; omega, (cd z)[j], atI_nat (show (cd z)[j]? = _ by simp [hj]), q _ _ hS (List.getElem_mem hj)⟩
theorem ok1__law_source (T : Tx K mg) : FnOk P w K mg base L2.CX0 lv__law_source T.f__law_source T.d__law_source p__law_source (spPot1 K) := by
  refine T.F__law_source.ok sc__law_source (fun vs H Q E h => ?_) (fun cdv A outer s H vs Q E hr h => ?_)
  · obtain ⟨a, ns, i, rfl, _⟩ := h
    rfl
  · obtain ⟨a, ns, i, rfl, hS, hn, hi, q⟩ := h
    refine ⟨_, (pss_cons (ps_set (i := 2) sc__law_source.nd rfl (by first | exact Or.inl rfl | exact Or.inr rfl) (pe_op op_addU pe_int (pe_op op_mul pe_int (pv 1))))
        (pss_cons (ps_for PassesOwn.never rfl (pi_listK (K := K) rfl (pe_slice (sl_K (K := K) rfl) (pv 0) po_none (po_some pe_int))) (pg_name (i := 3) sc__law_source.nd rfl (by first | exact Or.inl rfl | exact Or.inr rfl)) (pss_one (ps_set (i := 2) sc__law_source.nd rfl (by first | exact Or.inl rfl | exact Or.inr rfl) (pe_op op_mod (pe_callTy call_intU (by rfl) T.n_int (by decide +kernel) (pa_cons (pe_op op_addU (pe_op op_mul (pv 2) pe_int) (pv 3)) pa_nil)) pe_int))))
        (pss_cons (ps_set (i := 4) sc__law_source.nd rfl (by first | exact Or.inl rfl | exact Or.inr rfl) (pe_ifExp (pt_cmpR op_ltU (pv 1) (pe_callB (call_lenK (K := K) rfl) (by rfl) T.n_len (by decide +kernel) (pa_cons (pv 0) pa_nil)) (nomark _)) (pe_ix (ix_K (K := K) rfl) (pv 0) (pv 1) (fun _ _ => rfl)) (pv 2)))
        (pss_cons (ps_set (i := 2) sc__law_source.nd rfl (by first | exact Or.inl rfl | exact Or.inr rfl) (pe_op op_mod (pe_callTy call_intU (by rfl) T.n_int (by decide +kernel) (pa_cons (pe_op op_addU (pe_op op_mul (pv 2) pe_int) (pv 4)) pa_nil)) pe_int))
        (pss_one (ps_ret (pe_lst (pa_cons (pe_ifExp (pt_cmpR op_ge (pe_callB call_absU (by rfl) T.n_abs (by decide +kernel) (pa_cons (pv 4) pa_nil)) (pe_op op_pow pe_int pe_int) (nomark _)) (pe_callB call_absU (by rfl) T.n_abs (by decide +kernel) (pa_cons (pv 4) pa_nil)) pe_int) (pa_cons (pv 2) (pa_cons pe_int pa_nil)))))))))), ?_⟩
    walk_at "lx"
    refine ⟨.inl ⟨by decide, by decide⟩, adI ⟨_, sli_l hS, fun p1 np1 => ?_⟩⟩
    have e6 : cutV (ns.map V.int) none (some 6) = (ns.take 6).map V.int := by rw [List.map_take]; exact cutV_to _ 6
    rw [e6]
    have s1 := Same.new (o := .lst ((ns.take 6).map V.int)) np1
    refine forL (S := N0) upd_same (fun z => z) (fun j σ H' => Same H H' ∧ Ext N0 (upd H p1 (.lst ((ns.take 6).map V.int))) H' ∧ ∃ m u1 u2, σ = [some (.ref a), some (.int i), some (.int m), u1, u2]) ⟨s1, Ext.refl _, _, _, _, rfl⟩ (fun j σ' H' hI => hI.2.1) ?_ ?_
    · rintro j x σ' H' hx ⟨hS1, hE, m, u1, u2, rfl⟩
      rw [List.getElem?_map] at hx
      obtain ⟨z, _, rfl⟩ := Option.map_eq_some_iff.mp hx
      walk_at "lx"
      refine ⟨.inr ⟨by decide, by decide⟩, adI ?_⟩
      walk_at "lx"
      exact ⟨by decide, hS1, hE, _, _, _, rfl⟩
    · rintro σ' H' ⟨hS1, hE, m, u1, u2, rfl⟩
      have hS2 : SqL K H' a (ns.map V.int) := sql_sm hS hS1
      walk_at "lx"
      refine ⟨_, .inl hS2, ?_⟩
      rw [List.length_map]
      refine ite2 (fun c => ?_) (fun c => ?_)
      · have hz : ns[i]? = some ns[i] := by simp [show i < ns.length by omega]
        refine ⟨_, .int ns[i], .inl hS2, atI_nat (by rw [List.getElem?_map, hz]; rfl), ⟨.inr ⟨by decide, by decide⟩, adI ?_⟩⟩
        walk_at "lx"
        refine ⟨by decide, ⟨by decide, by decide, by decide⟩, ite2 (fun c2 => ⟨by decide, fun p hp => ?_⟩) (fun c2 => ⟨by decide, fun p hp => ?_⟩)⟩
        · exact q p _ _ _ _ (Same.snew hS1 hp) (Same.free hS1 hp) upd_same
        · exact q p _ _ _ _ (Same.snew hS1 hp) (Same.free hS1 hp) upd_same
      · refine ⟨.inr ⟨by decide, by decide⟩, adI ?_⟩
        walk_at "lx"
        refine ⟨by decide, ⟨by decide, by decide, by decide⟩, ite2 (fun c2 => ⟨by decide, fun p hp => ?_⟩) (fun c2 => ⟨by decide, fun p hp => ?_⟩)⟩
        · exact q p _ _ _ _ (Same.snew hS1 hp) (Same.free hS1 hp) upd_same
        · exact q p _ _ _ _ (Same.snew hS1 hp) (Same.free hS1 hp) upd_same
/-- a stem: some signs, at least one -/
def spStem : Sp := fun vs H Q _ => ∃ (p : Addr) (n : Nat), vs = [.ref p, .int n] ∧ Pot H p ∧ 0 < n ∧ n ≤ 20 ∧ ∀ z H', Same H H' → okText n z = true → Q (.str z) H'
theorem ok__law_stem (T : Tx K mg) : FnOk P w K mg base L2.CX0 lv__law_stem T.f__law_stem T.d__law_stem p__law_stem spStem := by
  refine T.F__law_stem.ok sc__law_stem (fun vs H Q E h => ?_) (fun cdv A outer s H vs Q E hr h => ?_)
  · obtain ⟨p, n, rfl, _⟩ := h
    rfl
  · obtain ⟨p, n, rfl, hp, hn0, hn, q⟩ := h
    refine ⟨_, (pss_cons (ps_set (i := 2) sc__law_stem.nd rfl (by first | exact Or.inl rfl | exact Or.inr rfl) pe_str)
        (pss_one (ps_ret (pe_joinK (K := K) rfl pe_str (pe_lc (own := [("_law_k", 3)]) rfl sc__law_stem.nd (pi_range1 rfl T.n_range (pa_cons (pe_op op_addU pe_int (pe_call (ok__law_draw T) (hr.mono (by decide)) rfl T.m__law_draw T.F__law_draw.kp T.b__law_draw .nil pass0 (pa_cons (pv 0) (pa_cons (pv 1) pa_nil)))) pa_nil)) (blkOk_by (N := ["_law_source_here", "_law_size", "_law_abc", "_law_k"]) (sc := L2.defScope s__law_stem) (by decide +kernel)) (fun _ _ _ _ _ => (pg_name (i := 3) sc__law_stem.nd rfl (by first | exact Or.inl rfl | exact Or.inr rfl))) (fun _ _ _ _ _ => pts_nil) (fun _ _ _ _ _ => (pe_ix (ix_K (K := K) rfl) (pv 2) (pe_call (ok__law_draw T) (hr.mono (by decide)) rfl T.m__law_draw T.F__law_draw.kp T.b__law_draw .nil pass0 (pa_cons (pv 0) (pa_cons pe_int pa_nil))) (fun _ _ => rfl)))))))), ?_⟩
    walk_at "lx"
    refine ⟨⟨_, rfl⟩, ?_⟩
    refine ⟨p, n, rfl, hp, ⟨by omega, by omega⟩, fun r H1 S1 hr0 hr1 => adI ?_⟩
    obtain ⟨r, rfl⟩ := Int.eq_ofNat_of_zero_le hr0
    have hp1 := hp.sm S1
    refine lcR (by omega) (by omega) (fun i ds => ∃ l : List Nat, ds = l.map sgn ∧ l.length = i ∧ ∀ c ∈ l, c ∈ U.signs) ⟨[], rfl, rfl, fun _ h => by cases h⟩ ?_ ?_
    · rintro D0 hD i ds H' hi ⟨l, rfl, hl, hok⟩ hE x H2 ⟨rfl, rfl⟩ Ky Kn hy hn
      walk_at "lx"
      have hp2 : Pot H2 p := hp1.go hE (ne_fresh hp1 hD)
      refine ⟨p, _, rfl, hp2, ⟨by decide, by decide⟩, fun j H3 S3 hj0 hj1 => ?_⟩
      obtain ⟨j, rfl⟩ := Int.eq_ofNat_of_zero_le hj0
      have hj : j < 38 := by omega
      have hc : ∀ j, j < 38 → ∃ c, (cd (Str.ofString ".0123456789abcdefghijklmnopqrstuvwxyz~"))[j]? = some c ∧ c ∈ U.signs := by
        intro j hj
        have : ∀ j, j < 38 → ((cd (Str.ofString ".0123456789abcdefghijklmnopqrstuvwxyz~"))[j]?.map fun c => decide (c ∈ U.signs)) = some true := by decide +kernel
        obtain ⟨c, hc, h2⟩ := Option.map_eq_some_iff.mp (this j hj)
        exact ⟨c, hc, of_decide_eq_true h2⟩
      obtain ⟨c, hc, hcs⟩ := hc j hj
      refine ixS (by decide +kernel) (c := c) hc (by omega) ?_
      refine hy _ _ (sgn c) S3 (.str _) rfl ⟨l ++ [c], by rw [List.map_append]; rfl, by rw [List.length_append, hl]; rfl, fun t ht => ?_⟩
      rcases List.mem_append.mp ht with z | z
      · exact hok t z
      · rw [List.mem_singleton.mp z]
        exact hcs
    · rintro D0 hD H' ds ⟨l, rfl, hl, hok⟩ hlen S3 hv3
      obtain ⟨p3, xs3, e0, _, hp3, hs3⟩ := dt_lst hv3
      cases e0
      have e : l.map sgn = (l.map one).map D.str := by rw [List.map_map]; rfl
      rw [e] at hs3
      have e3 := hs3.strs_eq
      subst e3
      rw [List.map_map] at hp3
      refine joinL hp3 (by omega) (q _ _ (S1.trans S3) (okText_iff.mpr ⟨?_, by rw [cd_ofL]; exact hok⟩))
      rw [← cd_len, cd_ofL]
      omega
def spWord : Sp := fun vs H Q _ => ∃ (p : Addr) (v : V) (ss : List Str), vs = [.ref p, v] ∧ Pot H p ∧ Dt N0 H v (.lst (ss.map .str)) ∧ (∀ z ∈ ss, okText 12 z = true) ∧ 0 < ss.length ∧ ss.length < 100 ∧ ∀ z H', Same H H' → okText 200 z = true → Q (.str z) H'
theorem ok__law_word (T : Tx K mg) : FnOk P w K mg base L2.CX0 lv__law_word T.f__law_word T.d__law_word p__law_word spWord := by
  refine T.F__law_word.ok sc__law_word (fun vs H Q E h => ?_) (fun cdv A outer s H vs Q E hr h => ?_)
  · obtain ⟨p, v, ss, rfl, _⟩ := h
    rfl
  · obtain ⟨p, v, ss, rfl, hp, hv, hss, hl0, hl1, q⟩ := h
    have hr64 := hr.units
    refine ⟨_, (pss_cons (ps_par (i := 2) (j := 3) rfl sc__law_word.nd rfl rfl (by decide) rfl rfl (pa_cons (pe_call (ok__law_draw T) (hr.mono (by decide)) rfl T.m__law_draw T.F__law_draw.kp T.b__law_draw .nil pass0 (pa_cons (pv 0) (pa_cons pe_int pa_nil))) (pa_cons (pe_call (ok__law_one T) (hr.mono (by decide)) rfl T.m__law_one T.F__law_one.kp T.b__law_one .nil pass0 (pa_cons (pv 0) (pa_cons (pv 1) pa_nil))) pa_nil)) (by rfl))
        (pss_cons (ps_if (pt_cmpR op_ltU (pv 2) pe_int (nomark _)) (pss_one (ps_ret (pv 3))) pss_nil)
        (pss_cons (ps_if (pt_cmpR op_ltU (pv 2) pe_int (nomark _)) (pss_one (ps_ret (pe_op op_addU (pe_op op_addU (pv 3) pe_str) (pe_callTy call_str_int (by rfl) T.n_str (by decide +kernel) (pa_cons (pe_op op_addU pe_int (pe_call (ok__law_draw T) (hr.mono (by decide)) rfl T.m__law_draw T.F__law_draw.kp T.b__law_draw .nil pass0 (pa_cons (pv 0) (pa_cons pe_int pa_nil)))) pa_nil))))) pss_nil)
        (pss_cons (ps_if (pt_cmpR (op_eqK (K := K) rfl hr64) (pv 2) pe_int (nomark _)) (pss_one (ps_ret (pe_slice (sl_K (K := K) rfl) (pv 3) po_none (po_some (pe_call (ok__law_draw T) (hr.mono (by decide)) rfl T.m__law_draw T.F__law_draw.kp T.b__law_draw .nil pass0 (pa_cons (pv 0) (pa_cons (pe_op op_addU (pe_callB (call_lenK (K := K) rfl) (by rfl) T.n_len (by decide +kernel) (pa_cons (pv 3) pa_nil)) pe_int) pa_nil))))))) pss_nil)
        (pss_cons (ps_if (pt_cmpR (op_eqK (K := K) rfl hr64) (pv 2) pe_int (nomark _)) (pss_one (ps_ret (pe_slice (sl_K (K := K) rfl) (pe_op op_mulS (pv 3) pe_int) po_none (po_some (pe_call (ok__law_one T) (hr.mono (by decide)) rfl T.m__law_one T.F__law_one.kp T.b__law_one .nil pass0 (pa_cons (pv 0) (pa_cons (pe_lst (pa_cons pe_int (pa_cons pe_int (pa_cons pe_int (pa_cons pe_int pa_nil))))) pa_nil))))))) pss_nil)
        (pss_one (ps_ret (pe_ifExp (pt_cmpR (op_eqK (K := K) rfl hr64) (pv 2) pe_int (nomark _)) (pe_op op_addU (pv 3) (pe_call (ok__law_stem T) (hr.mono (by decide)) rfl T.m__law_stem T.F__law_stem.kp T.b__law_stem .nil pass0 (pa_cons (pv 0) (pa_cons pe_int pa_nil)))) (pe_call (ok__law_stem T) (hr.mono (by decide)) rfl T.m__law_stem T.F__law_stem.kp T.b__law_stem .nil pass0 (pa_cons (pv 0) (pa_cons pe_int pa_nil))))))))))), ?_⟩
    walk_at "lx"
    obtain ⟨a, xs, rfl, _, ha, hs⟩ := dt_lst hv
    have hxs := hs.strs_eq
    subst hxs
    refine ⟨p, 9, rfl, hp, ⟨by decide, by decide⟩, fun way H1 S1 hw0 hw1 => ?_⟩
    refine ⟨p, _, rfl, hp.sm S1, .inl ⟨a, _, rfl, .inl (S1 _ _ ha), by rw [List.length_map]; exact hl0, by rw [List.length_map]; omega, fun x H2 S2 hx => ?_⟩⟩
    obtain ⟨m, hm, rfl⟩ := List.mem_map.mp hx
    have hmo := hss m hm
    have S3 := S1.trans S2
    have hp3 := hp.sm S3
    have hml := (okText_iff.mp hmo).1
    walk_at "lx"
    refine ite2 (fun c => ?_) (fun c => ?_)
    · exact q m _ S3 (ok_mono hmo (by decide))
    refine ite2 (fun c => ?_) (fun c => ?_)
    · refine adS' hmo (show okText 1 (Str.ofString "~") = true by decide +kernel) (by decide) fun h1 => ?_
      refine ⟨p, 3, rfl, hp3, ⟨by decide, by decide⟩, fun r H4 S4 hr0 hr1 => adI ?_⟩
      walk_at "lx"
      refine ⟨_, rfl, til_sm (Q := fun z => rAddU (V.str (m ++ Str.ofString "~")) (V.str z) H4 Q) (by omega) (by omega) fun h2 => ?_⟩
      exact adS' h1 h2 (by decide) fun h3 => q _ _ (S3.trans S4) (ok_mono h3 (by decide))
    refine eqI ?_
    walk_at "lx"
    refine ite2 (fun c => ?_) (fun c => ?_)
    · refine ⟨by rw [sizeLine_eq]; omega, adI ⟨p, _, rfl, hp3, ⟨by omega, by omega⟩, fun r H4 S4 hr0 hr1 => ?_⟩⟩
      obtain ⟨r, rfl⟩ := Int.eq_ofNat_of_zero_le hr0
      walk_at "lx"
      refine ⟨by rw [sizeLine_eq]; omega, ?_⟩
      rw [cutS_to]
      refine q _ _ (S3.trans S4) (ok_mono (tkS_ok (n := r) hmo) (by omega))
    refine eqI ?_
    walk_at "lx"
    refine ite2 (fun c => ?_) (fun c => ?_)
    · refine ⟨m, 200, rfl, rfl, by omega, by decide, by decide, ?_⟩
      refine ⟨by decide, fun t nt => ?_⟩
      have S4 := Same.snew S3 (o := .lst [.int 40, .int 41, .int 199, .int 200]) nt
      refine ⟨p, _, rfl, hp.sm S4, .inl ⟨t, _, rfl, .inl upd_same, by decide, by decide, fun x H5 S5 hx => ?_⟩⟩
      obtain ⟨n, rfl, hn⟩ : ∃ n : Nat, x = .int n ∧ n ≤ 200 := by
        simp only [List.mem_cons, List.not_mem_nil, or_false] at hx
        rcases hx with rfl | rfl | rfl | rfl
        · exact ⟨40, rfl, by decide⟩
        · exact ⟨41, rfl, by decide⟩
        · exact ⟨199, rfl, by decide⟩
        · exact ⟨200, rfl, by decide⟩
      walk_at "lx"
      refine ⟨?_, ?_⟩
      · have := len_mul m 200
        rw [if_neg (by decide)] at this
        rw [sizeLine_eq]
        omega
      · rw [cutS_to]
        exact q _ _ (S4.trans S5) (ok_mono (cut_ok (mul_ok hmo)) hn)
    refine eqI ?_
    walk_at "lx"
    refine ite2 (fun c => ?_) (fun c => ?_)
    · refine ⟨p, 3, rfl, hp3, by decide, by decide, fun z H4 S4 hz => ?_⟩
      exact adS' hmo hz (by decide) fun h3 => q _ _ (S3.trans S4) (ok_mono h3 (by decide))
    · refine ⟨p, 12, rfl, hp3, by decide, by decide, fun z H4 S4 hz => ?_⟩
      exact q _ _ (S3.trans S4) (ok_mono hz (by decide))
end
end GO
namespace GO
open G
open PySem PySem.Spec PyProof.Rows L2 U
section
variable {P : Program} {w : World} {K : PySem.W.Frag} {mg : Str → Option Value} {base : Heap}
def spBaseOf (C : Addr) : Sp := fun vs H Q _ => ∃ (v : V) (t : Str) (r : Ru) (wd : Nat), vs = [v, .str t] ∧ Dt N0 H v (namerD C r wd) ∧ t.length ≤ 4000000 ∧ Q (.str (tkS wd t)) H
theorem ok_Namer_base_of (T : Tx K mg) : FnOk P w K mg base L2.CX0 lv_Namer_base_of T.f_Namer_base_of T.d_Namer_base_of p_Namer_base_of (spBaseOf T.C_Namer) := by
  refine T.F_Namer_base_of.ok sc_Namer_base_of (fun vs H Q E h => ?_) (fun cdv A outer s H vs Q E hr h => ?_)
  · obtain ⟨v, t, r, wd, rfl, _⟩ := h
    rfl
  · obtain ⟨v, t, r, wd, rfl, hv, ht, q⟩ := h
    obtain ⟨a, dx, rfl, _, ha⟩ := nmF hv
    refine ⟨_, (pss_one (ps_ret (pe_slice (sl_K (K := K) rfl) (pv 1) po_none (po_some (pe_fldK (K := K) rfl (pv 0)))))), ?_⟩
    walk_at "lx"
    refine ⟨_, dx, _, ha, T.c_Namer, T.na_Namer_width, _, rfl, _, rfl, by rw [sizeLine_eq]; omega, ?_⟩
    rw [cutS_to]
    exact q
def spCheckNamer (C : Addr) : Sp := fun vs H Q _ => ∃ (v : V) (r : Ru) (wd : Nat), vs = [v] ∧ Dt N0 H v (namerD C r wd) ∧ Q .non H
theorem ok_check_namer (T : Tx K mg) : FnOk P w K mg base L2.CX0 lv_check_namer T.f_check_namer T.d_check_namer p_check_namer (spCheckNamer T.C_Namer) := by
  refine T.F_check_namer.ok sc_check_namer (fun vs H Q E h => ?_) (fun cdv A outer s H vs Q E hr h => ?_)
  · obtain ⟨v, r, wd, rfl, _⟩ := h
    rfl
  · obtain ⟨v, r, wd, rfl, hv, q⟩ := h
    obtain ⟨a, dx, rfl, _, ha⟩ := nmF hv
    refine ⟨_, (pss_one (ps_if (pt_not (pt_val (pe_callB (call_isiK (K := K) rfl) (by rfl) T.n_isinstance (by decide +kernel) (pa_cons (pv 0) (pa_cons (pe_gref rfl T.m_Namer) pa_nil))))) (pss_one ps_never) pss_nil)), ?_⟩
    walk_at "ly"
    refine ⟨_, _, _, _, true, rfl, .own _, .base (.ins ha T.c_Namer T.i_Namer.ha T.i_Namer.hn T.i_Namer.htk T.i_Namer.hm), T.i_Namer.me, _, rfl, ?_⟩
    walk_at "ly"
    exact q
end
end GO
namespace G
open PySem PySem.Spec PyProof.Rows L2 U V
theorem dt_n0 {S : Addr → Prop} {H : Hp} {v : V} {d : D} (h : Dt S H v d) : Dt N0 H v d := Dt.set (fun _ _ _ z => z) d h
section
variable {P : Program} {w : World} {K : PySem.W.Frag} {mg : Str → Option Value} {base : Heap}
theorem okD__law_draw (T : Tx K mg) : FnOk P w K mg base L2.CX0 lv__law_draw T.f__law_draw T.d__law_draw p__law_draw (lift spDrawD) := fn_weak (GO.ok__law_draw T) draw_lift
def spStemD : DC := fun ds M R => ∃ (p : Addr) (n : Nat), ds = [potD p, .int (n : Nat)] ∧ 0 < n ∧ n ≤ 20 ∧ ∀ z, okText n z = true → R (.str z) M
theorem okD__law_stem (T : Tx K mg) : FnOk P w K mg base L2.CX0 lv__law_stem T.f__law_stem T.d__law_stem p__law_stem (lift spStemD) := fn_weak (GO.ok__law_stem T) (by
  rintro vs H Q E ⟨S, M, ds, R, w, h, ⟨p, n, rfl, h0, h1, q⟩, k⟩
  match vs, h with
  | [_, _], .cons (.opq np hp) (.cons (.int _) .nil) => exact ⟨p, n, rfl, hp, h0, h1, fun z H' e hz => k _ S M _ H' (q z hz) (.same e) (w.same e) (.str z)⟩)
def spWordD : DC := fun ds M R => ∃ (p : Addr) (ss : List Str), ds = [potD p, .lst (ss.map .str)] ∧ (∀ z ∈ ss, okText 12 z = true) ∧ 0 < ss.length ∧ ss.length < 100 ∧ ∀ z, okText 200 z = true → R (.str z) M
theorem okD__law_word (T : Tx K mg) : FnOk P w K mg base L2.CX0 lv__law_word T.f__law_word T.d__law_word p__law_word (lift spWordD) := fn_weak (GO.ok__law_word T) (by
  rintro vs H Q E ⟨S, M, ds, R, w, h, ⟨p, ss, rfl, h0, h1, h2, q⟩, k⟩
  match vs, h with
  | [_, v], .cons (.opq np hp) (.cons hv .nil) => exact ⟨p, v, ss, rfl, hp, dt_n0 hv, h0, h1, h2, fun z H' e hz => k _ S M _ H' (q z hz) (.same e) (w.same e) (.str z)⟩)
def spOneD : DC := fun ds M R => ∃ p v, ds = [potD p, v] ∧ ((∃ xs, isSq M v xs ∧ 0 < xs.length ∧ xs.length < 1000000 ∧ ∀ x ∈ xs, R x M) ∨ (∃ z, v = .str z ∧ 0 < z.length ∧ z.length < 1000000 ∧ ∀ c ∈ cd z, R (.str (one c)) M))
theorem okD__law_one (T : Tx K mg) : FnOk P w K mg base L2.CX0 lv__law_one T.f__law_one T.d__law_one p__law_one (lift (spOneD)) := by
  refine fnD T.F__law_one sc__law_one (fun ds M R h => ?_) (fun cdv A outer s H E hr => ?_)
  · first | (obtain ⟨rfl, _⟩ := h; rfl) | (obtain ⟨_, rfl, _⟩ := h; rfl) | (obtain ⟨_, _, rfl, _⟩ := h; rfl) | (obtain ⟨_, _, _, rfl, _⟩ := h; rfl) | (obtain ⟨_, _, _, _, rfl, _⟩ := h; rfl) | (obtain ⟨_, _, _, _, _, rfl, _⟩ := h; rfl) | (obtain ⟨_, _, _, _, _, _, rfl, _⟩ := h; rfl) | (obtain ⟨_, _, _, _, _, _, _, rfl, _⟩ := h; rfl) | (obtain ⟨_, _, _, _, _, _, _, _, rfl, _⟩ := h; rfl)
  · have hr64 := hr.units
    have hc_Namer := T.c_Namer
    have hi_Namer := T.i_Namer
    have hn_Namer_rule := T.na_Namer_rule
    have hn_Namer_width := T.na_Namer_width
    have hc_Shelf := T.c_Shelf
    have hi_Shelf := T.i_Shelf
    have hn_Shelf_namer := T.na_Shelf_namer
    have hn_Shelf_there := T.na_Shelf_there
    have hn_Shelf_texts := T.na_Shelf_texts
    have hn_Shelf_names := T.na_Shelf_names
    have hn_Shelf_past := T.na_Shelf_past
    have hn_Shelf_moment := T.na_Shelf_moment
    have hn_Shelf_busy := T.na_Shelf_busy
    refine ⟨_, (pss_one (ps_ret (pe_ix (ix_K (K := K) rfl) (pv 1) (pe_call (okD__law_draw T) (hr.mono (by decide)) rfl T.m__law_draw T.F__law_draw.kp T.b__law_draw .nil pass0 (pa_cons (pv 0) (pa_cons (pe_callB (call_lenK (K := K) rfl) (by rfl) T.n_len (by decide +kernel) (pa_cons (pv 1) pa_nil)) pa_nil))) (fun _ _ => rfl)))), ?_⟩
    refine ⟨_, inferInstance, fun ds M R h => ?_⟩
    obtain ⟨p, v, rfl, h⟩ := h
    walk_at "dw"
    rcases h with ⟨xs, hx, h0, h1, q⟩ | ⟨z, rfl, h0, h1, q⟩
    · have hl : ∀ R' : Int → Prop, R' xs.length → V.lenR M v R' := by
        intro R' hR
        rcases hx with rfl | hx | ⟨a, rfl, hx⟩
        · exact ⟨xs, .inl rfl, hR⟩
        · rcases tf_cases hx with rfl | rfl <;> exact ⟨xs, .inr (.inl rfl), hR⟩
        · exact ⟨xs, .inr (.inr ⟨a, rfl, hx⟩), hR⟩
      refine ⟨v, rfl, hl _ ?_⟩
      walk_at "dw"
      refine ⟨p, _, rfl, ⟨by omega, by omega⟩, fun r r0 r1 => ?_⟩
      obtain ⟨j, rfl⟩ := Int.eq_ofNat_of_zero_le r0
      have hj : j < xs.length := by omega
      have e : atI xs ((j : Nat) : Int) = some xs[j] := atI_nat (at_some hj)
      have q2 := q _ (List.getElem_mem hj)
      rcases hx with rfl | hx | ⟨a, rfl, hx⟩
      · exact ⟨xs, _, .inl rfl, e, q2⟩
      · rcases tf_cases hx with rfl | rfl <;> exact ⟨xs, _, .inr (.inl rfl), e, q2⟩
      · exact ⟨xs, _, .inr (.inr ⟨a, rfl, hx⟩), e, q2⟩
    · refine V.x_lenS ⟨by rw [sizeLine_eq]; omega, ?_⟩
      walk_at "dw"
      refine ⟨p, _, rfl, ⟨by omega, by omega⟩, fun r r0 r1 => ?_⟩
      obtain ⟨j, rfl⟩ := Int.eq_ofNat_of_zero_le r0
      have hj : j < (cd z).length := by rw [cd_len]; omega
      exact ⟨_, by rw [sizeLine_eq]; omega, atI_nat (at_some hj), q _ (List.getElem_mem hj)⟩
def nmFs (r : Ru) (wd : Nat) : List (Str × D) := [("rule", .str r.str), ("width", .int (wd : Nat))]
def spNmI (C : Addr) : DC := fun ds M R => ∃ (x : Addr) (r : Ru) (wd : Nat), ds = [.ptr x, .str r.str, .int (wd : Nat)] ∧ 6 ≤ wd ∧ wd ≤ 40 ∧ M x = some (.ins C []) ∧ R .non (mset M x (.ins C (nmFs r wd)))
theorem okD_Namer___init__ (T : Tx K mg) : FnOk P w K mg base L2.CX0 lv_Namer___init__ T.f_Namer___init__ T.d_Namer___init__ p_Namer___init__ (lift (spNmI T.C_Namer)) := by
  refine fnD T.F_Namer___init__ sc_Namer___init__ (fun ds M R h => ?_) (fun cdv A outer s H E hr => ?_)
  · first | (obtain ⟨rfl, _⟩ := h; rfl) | (obtain ⟨_, rfl, _⟩ := h; rfl) | (obtain ⟨_, _, rfl, _⟩ := h; rfl) | (obtain ⟨_, _, _, rfl, _⟩ := h; rfl) | (obtain ⟨_, _, _, _, rfl, _⟩ := h; rfl) | (obtain ⟨_, _, _, _, _, rfl, _⟩ := h; rfl) | (obtain ⟨_, _, _, _, _, _, rfl, _⟩ := h; rfl) | (obtain ⟨_, _, _, _, _, _, _, rfl, _⟩ := h; rfl) | (obtain ⟨_, _, _, _, _, _, _, _, rfl, _⟩ := h; rfl)
  · have hr64 := hr.units
    have hc_Namer := T.c_Namer
    have hi_Namer := T.i_Namer
    have hn_Namer_rule := T.na_Namer_rule
    have hn_Namer_width := T.na_Namer_width
    have hc_Shelf := T.c_Shelf
    have hi_Shelf := T.i_Shelf
    have hn_Shelf_namer := T.na_Shelf_namer
    have hn_Shelf_there := T.na_Shelf_there
    have hn_Shelf_texts := T.na_Shelf_texts
    have hn_Shelf_names := T.na_Shelf_names
    have hn_Shelf_past := T.na_Shelf_past
    have hn_Shelf_moment := T.na_Shelf_moment
    have hn_Shelf_busy := T.na_Shelf_busy
    refine ⟨_, (pss_cons (ps_if (PW.pt (pw_or (pt_not (pt_val (pe_callB (call_isiK (K := K) rfl) (by rfl) T.n_isinstance (by decide +kernel) (pa_cons (pv 1) (pa_cons (pe_bt "str" rfl T.n_str (by decide +kernel)) pa_nil))))) (pw_or1 (pt_cmpR (op_ninKT (l := [PySem.Str.ofString "count", PySem.Str.ofString "free", PySem.Str.ofString "tight"]) T.q_RULES) (pv 1) (pe_gref rfl T.m_RULES) (by rfl))))) (pss_one ps_never) pss_nil)
        (pss_cons (ps_if (PW.pt (pw_or (pt_not (pt_val (pe_call (okD_is_integer T) (hr.mono (by decide)) rfl T.m_is_integer T.F_is_integer.kp T.b_is_integer .nil pass0 (pa_cons (pv 2) pa_nil)))) (pw_or1 (pt_not (pt_chain op_le op_le (C8.pe_gc rfl T.k_LEAST_WIDTH) (pv 2) (C8.pe_gc rfl T.k_MOST_SIGNS)))))) (pss_one ps_never) pss_nil)
        (pss_cons (ps_fld (pv 0) (pv 1) rfl)
        (pss_one (ps_fld (pv 0) (pv 2) rfl))))), ?_⟩
    refine ⟨_, inferInstance, fun ds M R h => ?_⟩
    obtain ⟨x, r, wd, rfl, h6, h40, hm, q⟩ := h
    walk_at "dw"
    refine ⟨_, true, .str _, kit_ty (by decide +kernel), ?_⟩
    walk_at "dw"
    refine ⟨rfl, r.str, rfl, ?_⟩
    rw [show decide (r.str ∈ [Str.ofString "count", Str.ofString "free", Str.ofString "tight"]) = true by cases r <;> decide +kernel]
    walk_at "dw"
    rw [if_neg (by decide)]
    walk_at "dw"
    refine ⟨_, rfl, _, .int _, by decide, true, rfl, ?_⟩
    walk_at "dw"
    rw [show putD (Str.ofString "width") (D.int (wd : Nat)) (putD (Str.ofString "rule") (D.str r.str) []) = nmFs r wd by simp [putD, nmFs]; decide +kernel]
    exact q
theorem okF_Namer___init__ (T : Tx K mg) : FnOk P w K mg base L2.CX0 lv_Namer___init__ T.f_Namer___init__ T.d_Namer___init__ p_Namer___init__ (liftF (spNmI T.C_Namer)) := okD_Namer___init__ T
/-- a new namer -/
theorem mk_nm {C : Addr} {M : Mem} {R : QD} {r : Ru} {wd : Nat} (h6 : 6 ≤ wd) (h40 : wd ≤ 40) (q : R (namerD C r wd) M) : rMakeF C (spNmI C) [.str r.str, .int (wd : Nat)] M R := fun x hx => by
  refine ⟨x, r, wd, rfl, h6, h40, mset_same, ?_⟩
  refine ⟨rfl, nmFs r wd, by rw [mset_set]; exact mset_same, ?_⟩
  rw [mset_set, mdel_set hx]
  exact q
def spCheckNamerD (C : Addr) : DC := fun ds M R => ∃ (r : Ru) (wd : Nat), ds = [namerD C r wd] ∧ R .non M
theorem okD_check_namer (T : Tx K mg) : FnOk P w K mg base L2.CX0 lv_check_namer T.f_check_namer T.d_check_namer p_check_namer (lift (spCheckNamerD T.C_Namer)) := fn_weak (GO.ok_check_namer T) (by
  rintro vs H Q E ⟨S, M, ds, R, w, h, ⟨r, wd, rfl, q⟩, k⟩
  match vs, h with
  | [_], .cons h1 .nil => exact ⟨_, r, wd, rfl, dt_n0 h1, k _ S M _ H q .refl w .non⟩)
end
end G
namespace G
open PySem PySem.Spec PyProof.Rows L2 U V
section
variable {P : Program} {w : World} {K : PySem.W.Frag} {mg : Str → Option Value} {base : Heap}
theorem okE_InvalidText___init__ (T : Tx K mg) : FnOk P w K mg base L2.CX0 lv_InvalidText___init__ T.f_InvalidText___init__ T.d_InvalidText___init__ p_InvalidText___init__ (spExI T.C_InvalidText "value") := by
  refine T.F_InvalidText___init__.ok sc_InvalidText___init__ (fun vs H Q E h => ?_) (fun cdv A outer s H vs Q E hr h => ?_)
  · obtain ⟨a, y, rfl, _⟩ := h
    rfl
  · obtain ⟨a, y, rfl, ha, q⟩ := h
    refine ⟨_, pss_one (ps_ost (pv 0) (pv 1)), ?_⟩
    exact ⟨y, rfl, .ref a, rfl, a, T.C_InvalidText, rfl, T.o_InvalidText, T.na_InvalidText_value, .inl ⟨ha, fun dx nd ne => q dx nd ne⟩⟩
/-- a value that is no mark: a text that is none, or something else -/
def BadT (K : PySem.W.Frag) (M : Mem) (n : Nat) (d : D) : Prop := (∃ z, d = .str z ∧ z.length ≤ 16777216 ∧ okText n z = false) ∨ ∃ t : String, TyD K M d (.type t) ∧ t ∈ tyNames ∧ t ≠ "str"
theorem badT_is {K : PySem.W.Frag} {M : Mem} {n : Nat} {d : D} {R : QD} (h : BadT K M n d) (q : R (.bl false) M) : spIsText K [d, .int n] M R := by
  rcases h with ⟨z, rfl, hz, e⟩ | ⟨t, ty, ht, hs⟩
  · exact ⟨_, n, rfl, .inl ⟨z, rfl, hz, by rw [e]; exact q⟩⟩
  · exact ⟨_, n, rfl, .inr ⟨t, ty, ht, hs, q⟩⟩
theorem badT_str {K : PySem.W.Frag} {M : Mem} {n : Nat} {z : Str} (h : okText n z = false) (hz : z.length ≤ 16777216) : BadT K M n (.str z) := .inl ⟨z, rfl, hz, h⟩
theorem badT_of {K : PySem.W.Frag} {M : Mem} {n : Nat} {d : D} (t : String) (ty : TyD K M d (.type t)) (ht : t ∈ tyNames) (h : t ≠ "str") : BadT K M n d := .inr ⟨t, ty, ht, h⟩
theorem ty_ne {t s : String} (ht : t ∈ tyNames) (hs : s ∈ ["list", "tuple", "str", "dict"]) (n : t ≠ s) : kitB t s = some false := by
  have : ∀ s ∈ (["list", "tuple", "str", "dict"] : List String), ∀ t ∈ tyNames, t ≠ s → kitB t s = some false := by decide +kernel
  exact this s hs t ht n
def goodTxt (d : D) : Prop := ∃ z : Str, d = .str z ∧ okText 200 z = true
def spCheckTextX (C : Addr) (K : PySem.W.Frag) : DCX := fun ds M R q => ∃ d, ds = [d] ∧ ((goodTxt d ∧ R .non M) ∨ (BadT K M 200 d ∧ q C [(Str.ofString "value", d)] M))
theorem okX_check_text (T : Tx K mg) : FnOk P w K mg base (L2.CX P w) lv_check_text T.f_check_text T.d_check_text p_check_text (liftX (spCheckTextX T.C_InvalidText K)) := by
  refine fnX T.F_check_text sc_check_text (fun ds M R q h => ?_) (fun cdv A outer s H E hr tk hpo => ?_)
  · first | (obtain ⟨rfl, _⟩ := h; rfl) | (obtain ⟨_, rfl, _⟩ := h; rfl) | (obtain ⟨_, _, rfl, _⟩ := h; rfl) | (obtain ⟨_, _, _, rfl, _⟩ := h; rfl) | (obtain ⟨_, _, _, _, rfl, _⟩ := h; rfl) | (obtain ⟨_, _, _, _, _, rfl, _⟩ := h; rfl) | (obtain ⟨_, _, _, _, _, _, rfl, _⟩ := h; rfl) | (obtain ⟨_, _, _, _, _, _, _, rfl, _⟩ := h; rfl) | (obtain ⟨_, _, _, _, _, _, _, _, rfl, _⟩ := h; rfl)
  · have hr64 := hr.units
    have hc_Namer := T.c_Namer
    have hi_Namer := T.i_Namer
    have hn_Namer_rule := T.na_Namer_rule
    have hn_Namer_width := T.na_Namer_width
    have hc_Shelf := T.c_Shelf
    have hi_Shelf := T.i_Shelf
    have hn_Shelf_namer := T.na_Shelf_namer
    have hn_Shelf_there := T.na_Shelf_there
    have hn_Shelf_texts := T.na_Shelf_texts
    have hn_Shelf_names := T.na_Shelf_names
    have hn_Shelf_past := T.na_Shelf_past
    have hn_Shelf_moment := T.na_Shelf_moment
    have hn_Shelf_busy := T.na_Shelf_busy
    refine ⟨_, (pss_one (ps_if (pt_not (pt_val (pe_call (okD_is_text T) (hr.mono (by decide)) rfl T.m_is_text T.F_is_text.kp T.b_is_text .nil pass0 (pa_cons (pv 0) (pa_cons (C8.pe_gc rfl T.k_MOST_TEXT) pa_nil))))) (pss_one (ps_raiseX T.o_InvalidText T.i_InvalidText T.j_InvalidText (okE_InvalidText___init__ T) (hr.mono (by decide)) T.b_InvalidText___init__ rfl T.m_InvalidText rfl tk (pv 0))) pss_nil)), ?_⟩
    refine ⟨_, inferInstance, fun ds M R q h => ?_⟩
    obtain ⟨d, rfl, h⟩ := h
    walk_at "dw"
    rcases h with ⟨⟨z, rfl, hz⟩, p⟩ | ⟨hb, p⟩
    · have h1 := (okText_iff.mp hz).1
      refine ⟨_, 200, rfl, .inl ⟨z, rfl, by omega, ?_⟩⟩
      rw [hz]
      walk_at "dw"
      exact p
    · refine badT_is (n := 200) hb ?_
      walk_at "dw"
      exact p
end
end G
namespace G
open PySem PySem.Spec PyProof.Rows L2 U V
section
variable {P : Program} {w : World} {K : PySem.W.Frag} {mg : Str → Option Value} {base : Heap}
structure RfX (T : Tx K mg) (C : Addr) (k : Nat) : Prop where
  ex : L2.ExcC K C
  xf : XfC K C
  k0 : PySem.W.kitOne K (.ref C) (.ref T.C_InvalidNumber) = some (decide (k = 0))
  k1 : PySem.W.kitOne K (.ref C) (.ref T.C_InvalidMark) = some (decide (k = 1))
  k2 : PySem.W.kitOne K (.ref C) (.ref T.C_InvalidText) = some (decide (k = 2))
  k3 : PySem.W.kitOne K (.ref C) (.ref T.C_InvalidLength) = some (decide (k = 3))
  k4 : PySem.W.kitOne K (.ref C) (.ref T.C_InvalidRule) = some (decide (k = 4))
  k5 : PySem.W.kitOne K (.ref C) (.ref T.C_InvalidWidth) = some (decide (k = 5))
  k6 : PySem.W.kitOne K (.ref C) (.ref T.C_InvalidPlace) = some (decide (k = 6))
  k7 : PySem.W.kitOne K (.ref C) (.ref T.C_InvalidLine) = some (decide (k = 7))
  k8 : PySem.W.kitOne K (.ref C) (.ref T.C_NotANamer) = some (decide (k = 8))
  k9 : PySem.W.kitOne K (.ref C) (.ref T.C_NotAShelf) = some (decide (k = 9))
  k10 : PySem.W.kitOne K (.ref C) (.ref T.C_InvalidRow) = some (decide (k = 10))
  k11 : PySem.W.kitOne K (.ref C) (.ref T.C_InvalidViews) = some (decide (k = 11))
  k12 : PySem.W.kitOne K (.ref C) (.ref T.C_InvalidTexts) = some (decide (k = 12))
  k13 : PySem.W.kitOne K (.ref C) (.ref T.C_InvalidDeeds) = some (decide (k = 13))
  k14 : PySem.W.kitOne K (.ref C) (.ref T.C_NothingToUndo) = some (decide (k = 14))
  k15 : PySem.W.kitOne K (.ref C) (.ref T.C_Busy) = some (decide (k = 15))
  k16 : PySem.W.kitOne K (.ref C) (.ref T.C_UnknownName) = some (decide (k = 16))
  k17 : PySem.W.kitOne K (.ref C) (.ref T.C_TooMany) = some (decide (k = 17))
  k18 : PySem.W.kitOne K (.ref C) (.ref T.C_InputError) = some (decide (k < 14))
  k19 : PySem.W.kitOne K (.ref C) (.ref T.C_StateError) = some ((decide (13 < k) && decide (k < 17)))
  k20 : PySem.W.kitOne K (.ref C) (.ref T.C_SizeError) = some (decide (k = 17))
  k21 : PySem.W.kitOne K (.ref C) (.type "ValueError") = some (decide (k < 14))
  k22 : PySem.W.kitOne K (.ref C) (.type "LookupError") = some ((decide (13 < k) && decide (k < 17)))
  k23 : PySem.W.kitOne K (.ref C) (.type "ArithmeticError") = some (decide (k = 17))
theorem rf_InvalidText (T : Tx K mg) : RfX T T.C_InvalidText 2 := ⟨T.ex_InvalidText, T.xf_InvalidText, T.kr_InvalidText_0, T.kr_InvalidText_1, T.kr_InvalidText_2, T.kr_InvalidText_3, T.kr_InvalidText_4, T.kr_InvalidText_5, T.kr_InvalidText_6, T.kr_InvalidText_7, T.kr_InvalidText_8, T.kr_InvalidText_9, T.kr_InvalidText_10, T.kr_InvalidText_11, T.kr_InvalidText_12, T.kr_InvalidText_13, T.kr_InvalidText_14, T.kr_InvalidText_15, T.kr_InvalidText_16, T.kr_InvalidText_17, T.kr_InvalidText_18, T.kr_InvalidText_19, T.kr_InvalidText_20, T.kr_InvalidText_21, T.kr_InvalidText_22, T.kr_InvalidText_23⟩
theorem any_InvalidText (T : Tx K mg) : PySem.W.exmAny K (.ref T.C_InvalidText) [.ref T.C_InputError, .ref T.C_StateError, .ref T.C_SizeError] = some true := by
  simp only [PySem.W.exmAny, T.eh_InvalidText_InputError, T.eh_InvalidText_StateError, T.eh_InvalidText_SizeError, Bool.or_false, Bool.or_true, Bool.true_or, Bool.false_or]
theorem rf_TooMany (T : Tx K mg) : RfX T T.C_TooMany 17 := ⟨T.ex_TooMany, T.xf_TooMany, T.kr_TooMany_0, T.kr_TooMany_1, T.kr_TooMany_2, T.kr_TooMany_3, T.kr_TooMany_4, T.kr_TooMany_5, T.kr_TooMany_6, T.kr_TooMany_7, T.kr_TooMany_8, T.kr_TooMany_9, T.kr_TooMany_10, T.kr_TooMany_11, T.kr_TooMany_12, T.kr_TooMany_13, T.kr_TooMany_14, T.kr_TooMany_15, T.kr_TooMany_16, T.kr_TooMany_17, T.kr_TooMany_18, T.kr_TooMany_19, T.kr_TooMany_20, T.kr_TooMany_21, T.kr_TooMany_22, T.kr_TooMany_23⟩
theorem any_TooMany (T : Tx K mg) : PySem.W.exmAny K (.ref T.C_TooMany) [.ref T.C_InputError, .ref T.C_StateError, .ref T.C_SizeError] = some true := by
  simp only [PySem.W.exmAny, T.eh_TooMany_InputError, T.eh_TooMany_StateError, T.eh_TooMany_SizeError, Bool.or_false, Bool.or_true, Bool.true_or, Bool.false_or]
theorem rf_UnknownName (T : Tx K mg) : RfX T T.C_UnknownName 16 := ⟨T.ex_UnknownName, T.xf_UnknownName, T.kr_UnknownName_0, T.kr_UnknownName_1, T.kr_UnknownName_2, T.kr_UnknownName_3, T.kr_UnknownName_4, T.kr_UnknownName_5, T.kr_UnknownName_6, T.kr_UnknownName_7, T.kr_UnknownName_8, T.kr_UnknownName_9, T.kr_UnknownName_10, T.kr_UnknownName_11, T.kr_UnknownName_12, T.kr_UnknownName_13, T.kr_UnknownName_14, T.kr_UnknownName_15, T.kr_UnknownName_16, T.kr_UnknownName_17, T.kr_UnknownName_18, T.kr_UnknownName_19, T.kr_UnknownName_20, T.kr_UnknownName_21, T.kr_UnknownName_22, T.kr_UnknownName_23⟩
theorem any_UnknownName (T : Tx K mg) : PySem.W.exmAny K (.ref T.C_UnknownName) [.ref T.C_InputError, .ref T.C_StateError, .ref T.C_SizeError] = some true := by
  simp only [PySem.W.exmAny, T.eh_UnknownName_InputError, T.eh_UnknownName_StateError, T.eh_UnknownName_SizeError, Bool.or_false, Bool.or_true, Bool.true_or, Bool.false_or]
theorem rf_NothingToUndo (T : Tx K mg) : RfX T T.C_NothingToUndo 14 := ⟨T.ex_NothingToUndo, T.xf_NothingToUndo, T.kr_NothingToUndo_0, T.kr_NothingToUndo_1, T.kr_NothingToUndo_2, T.kr_NothingToUndo_3, T.kr_NothingToUndo_4, T.kr_NothingToUndo_5, T.kr_NothingToUndo_6, T.kr_NothingToUndo_7, T.kr_NothingToUndo_8, T.kr_NothingToUndo_9, T.kr_NothingToUndo_10, T.kr_NothingToUndo_11, T.kr_NothingToUndo_12, T.kr_NothingToUndo_13, T.kr_NothingToUndo_14, T.kr_NothingToUndo_15, T.kr_NothingToUndo_16, T.kr_NothingToUndo_17, T.kr_NothingToUndo_18, T.kr_NothingToUndo_19, T.kr_NothingToUndo_20, T.kr_NothingToUndo_21, T.kr_NothingToUndo_22, T.kr_NothingToUndo_23⟩
theorem any_NothingToUndo (T : Tx K mg) : PySem.W.exmAny K (.ref T.C_NothingToUndo) [.ref T.C_InputError, .ref T.C_StateError, .ref T.C_SizeError] = some true := by
  simp only [PySem.W.exmAny, T.eh_NothingToUndo_InputError, T.eh_NothingToUndo_StateError, T.eh_NothingToUndo_SizeError, Bool.or_false, Bool.or_true, Bool.true_or, Bool.false_or]
def rfWords : List Str := ["number", "mark", "text", "length", "rule", "width", "place", "line", "namer", "shelf", "row", "views", "texts", "deeds", "nothing", "busy", "unknown", "many"]
def rfWord (k : Nat) : Str := (rfWords[k]?).getD Str.empty
def rfAttr (k : Nat) : Str := if k = 17 then Str.ofString "limit" else if 9 < k ∧ k < 14 then Str.ofString "index" else Str.ofString "value"
def rowsB (k : Nat) : List Bool := [decide (k = 0), decide (k = 1), decide (k = 2), decide (k = 3), decide (k = 4), decide (k = 5), decide (k = 6), decide (k = 7), decide (k = 8), decide (k = 9), decide (k = 10), decide (k = 11), decide (k = 12), decide (k = 13), decide (k = 14), decide (k = 15), decide (k = 16), decide (k = 17)]
def spRefuse (T : Tx K mg) : DC := fun ds M R => ∃ (a C : Addr) (fs : List (Str × D)) (k : Nat), ds = [.ptr a] ∧ M a = some (.xob C fs) ∧ RfX T C k ∧ k < 18 ∧ (k = 14 ∨ k = 15 → R (.tup [.str (rfWord k)]) M) ∧
  (k ≠ 14 → k ≠ 15 → ∃ y, fs = [(rfAttr k, y)] ∧ PySem.W.findIn K (.ref C) (rfAttr k) = some none ∧ R (.tup [.str (rfWord k), y]) M)
theorem eqbs_bl : ∀ bs cs : List Bool, D.eqbs (bs.map D.bl) (cs.map D.bl) = decide (bs = cs)
  | [], [] => by simp [D.eqbs]
  | [], c :: cs => by simp [D.eqbs]
  | b :: bs, [] => by simp [D.eqbs]
  | b :: bs, c :: cs => by
    rw [List.map_cons, List.map_cons, D.eqbs, eqbs_bl bs cs]
    cases b <;> cases c <;> by_cases e : bs = cs <;> simp [D.eqb, e]
theorem ne_bools {bs cs : List Bool} {M : Mem} {R : QD} (q : R (.bl (!decide (bs = cs))) M) : rNe1 (.lst (bs.map D.bl)) (.lst (cs.map D.bl)) M R := by
  have E : ∀ l : List Bool, EqOk (.lst (l.map D.bl)) := fun l => EqOk.of (okPs.list (okPs.all (W := 8) (k := 0) fun d hd => by
    obtain ⟨p, hp, rfl⟩ := List.mem_map.mp hd
    exact ⟨_, by rw [D.py], (PyOk.bl p).mono (Nat.zero_le _) (Nat.zero_le _)⟩)) (by decide)
  show EqOk _ ∧ EqOk _ ∧ R (.bl (!D.eqb (.lst (bs.map D.bl)) (.lst (cs.map D.bl)))) M
  refine ⟨E bs, E cs, ?_⟩
  rw [show D.eqb (.lst (bs.map D.bl)) (.lst (cs.map D.bl)) = D.eqbs (bs.map D.bl) (cs.map D.bl) by rw [D.eqb], eqbs_bl]
  exact q
theorem in_1415 {k : Nat} {M : Mem} {R : QD} (q : R (.bl (decide (k = 14 ∨ k = 15))) M) : rIn1 (.int (k : Nat)) (.lst [.int 14, .int 15]) M R := by
  refine ⟨_, .inl rfl, rfl, rfl, ?_⟩
  have e : ([D.int 14, D.int 15].any fun e => D.eqb e (.int (k : Nat))) = decide (k = 14 ∨ k = 15) := by
    rw [List.any_cons, List.any_cons, List.any_nil, show D.eqb (.int 14) (.int (k : Nat)) = decide ((14 : Int) = k) by rw [D.eqb]; rfl, show D.eqb (.int 15) (.int (k : Nat)) = decide ((15 : Int) = k) by rw [D.eqb]; rfl, Bool.or_false, ← Bool.decide_or]
    exact decide_eq_decide.mpr (by omega)
  rw [e]
  exact q
theorem word_at {k : Nat} (hk : k < 18) : (rfWords.map D.str)[k]? = some (.str (rfWord k)) := by
  have h : rfWords[k]? = some rfWords[k] := List.getElem?_eq_getElem (l := rfWords) (i := k) hk
  rw [List.getElem?_map, h]
  unfold rfWord
  rw [h]
  rfl
def underB (k : Nat) : List Bool := [decide (k < 14), decide (13 < k) && decide (k < 17), decide (k = 17)]
theorem isx_c {a C A : Addr} {fs : List (Str × D)} {b : Bool} {M : Mem} {R : QD} (ha : M a = some (.xob C fs)) (E : ExcC K C) (k : PySem.W.kitOne K (.ref C) (.ref A) = some b) (q : R (.bl b) M) : rIsXD K [.ptr a, .ptr A] M R := ⟨a, C, fs, _, _, b, rfl, ha, E, .inl ⟨A, rfl, rfl⟩, k, q⟩
theorem isx_t {a C : Addr} {n : String} {fs : List (Str × D)} {b : Bool} {M : Mem} {R : QD} (ha : M a = some (.xob C fs)) (E : ExcC K C) (k : PySem.W.kitOne K (.ref C) (.type n) = some b) (q : R (.bl b) M) : rIsXD K [.ptr a, .ty n] M R := ⟨a, C, fs, _, _, b, rfl, ha, E, .inr ⟨n, rfl, rfl⟩, k, q⟩
theorem okQ__law_refusal (T : Tx K mg) : FnQ P w K mg base lv__law_refusal T.f__law_refusal T.d__law_refusal p__law_refusal (lift (spRefuse T)) := by
  refine fnQD T.F__law_refusal sc__law_refusal (fun ds M R h => ?_) (fun cdv A outer s H E hr => ?_)
  · first | (obtain ⟨rfl, _⟩ := h; rfl) | (obtain ⟨_, rfl, _⟩ := h; rfl) | (obtain ⟨_, _, rfl, _⟩ := h; rfl) | (obtain ⟨_, _, _, rfl, _⟩ := h; rfl) | (obtain ⟨_, _, _, _, rfl, _⟩ := h; rfl) | (obtain ⟨_, _, _, _, _, rfl, _⟩ := h; rfl) | (obtain ⟨_, _, _, _, _, _, rfl, _⟩ := h; rfl) | (obtain ⟨_, _, _, _, _, _, _, rfl, _⟩ := h; rfl) | (obtain ⟨_, _, _, _, _, _, _, _, rfl, _⟩ := h; rfl)
  · have hr64 := roomH_units hr
    have hc_Namer := T.c_Namer
    have hi_Namer := T.i_Namer
    have hn_Namer_rule := T.na_Namer_rule
    have hn_Namer_width := T.na_Namer_width
    have hc_Shelf := T.c_Shelf
    have hi_Shelf := T.i_Shelf
    have hn_Shelf_namer := T.na_Shelf_namer
    have hn_Shelf_there := T.na_Shelf_there
    have hn_Shelf_texts := T.na_Shelf_texts
    have hn_Shelf_names := T.na_Shelf_names
    have hn_Shelf_past := T.na_Shelf_past
    have hn_Shelf_moment := T.na_Shelf_moment
    have hn_Shelf_busy := T.na_Shelf_busy
    refine ⟨_, (pss_cons (ps_set (i := 1) sc__law_refusal.nd rfl (by first | exact Or.inl rfl | exact Or.inr rfl) (pe_lst (pa_cons (pe_callB (call_isX (K := K) rfl) (by rfl) T.n_isinstance (by decide +kernel) (pa_cons (pv 0) (pa_cons (pe_gref rfl T.m_InvalidNumber) pa_nil))) (pa_cons (pe_callB (call_isX (K := K) rfl) (by rfl) T.n_isinstance (by decide +kernel) (pa_cons (pv 0) (pa_cons (pe_gref rfl T.m_InvalidMark) pa_nil))) (pa_cons (pe_callB (call_isX (K := K) rfl) (by rfl) T.n_isinstance (by decide +kernel) (pa_cons (pv 0) (pa_cons (pe_gref rfl T.m_InvalidText) pa_nil))) pa_nil)))))
        (pss_cons (ps_set (i := 1) sc__law_refusal.nd rfl (by first | exact Or.inl rfl | exact Or.inr rfl) (pe_op op_addU (pv 1) (pe_lst (pa_cons (pe_callB (call_isX (K := K) rfl) (by rfl) T.n_isinstance (by decide +kernel) (pa_cons (pv 0) (pa_cons (pe_gref rfl T.m_InvalidLength) pa_nil))) (pa_cons (pe_callB (call_isX (K := K) rfl) (by rfl) T.n_isinstance (by decide +kernel) (pa_cons (pv 0) (pa_cons (pe_gref rfl T.m_InvalidRule) pa_nil))) (pa_cons (pe_callB (call_isX (K := K) rfl) (by rfl) T.n_isinstance (by decide +kernel) (pa_cons (pv 0) (pa_cons (pe_gref rfl T.m_InvalidWidth) pa_nil))) pa_nil))))))
        (pss_cons (ps_set (i := 1) sc__law_refusal.nd rfl (by first | exact Or.inl rfl | exact Or.inr rfl) (pe_op op_addU (pv 1) (pe_lst (pa_cons (pe_callB (call_isX (K := K) rfl) (by rfl) T.n_isinstance (by decide +kernel) (pa_cons (pv 0) (pa_cons (pe_gref rfl T.m_InvalidPlace) pa_nil))) (pa_cons (pe_callB (call_isX (K := K) rfl) (by rfl) T.n_isinstance (by decide +kernel) (pa_cons (pv 0) (pa_cons (pe_gref rfl T.m_InvalidLine) pa_nil))) (pa_cons (pe_callB (call_isX (K := K) rfl) (by rfl) T.n_isinstance (by decide +kernel) (pa_cons (pv 0) (pa_cons (pe_gref rfl T.m_NotANamer) pa_nil))) pa_nil))))))
        (pss_cons (ps_set (i := 1) sc__law_refusal.nd rfl (by first | exact Or.inl rfl | exact Or.inr rfl) (pe_op op_addU (pv 1) (pe_lst (pa_cons (pe_callB (call_isX (K := K) rfl) (by rfl) T.n_isinstance (by decide +kernel) (pa_cons (pv 0) (pa_cons (pe_gref rfl T.m_NotAShelf) pa_nil))) (pa_cons (pe_callB (call_isX (K := K) rfl) (by rfl) T.n_isinstance (by decide +kernel) (pa_cons (pv 0) (pa_cons (pe_gref rfl T.m_InvalidRow) pa_nil))) (pa_cons (pe_callB (call_isX (K := K) rfl) (by rfl) T.n_isinstance (by decide +kernel) (pa_cons (pv 0) (pa_cons (pe_gref rfl T.m_InvalidViews) pa_nil))) pa_nil))))))
        (pss_cons (ps_set (i := 1) sc__law_refusal.nd rfl (by first | exact Or.inl rfl | exact Or.inr rfl) (pe_op op_addU (pv 1) (pe_lst (pa_cons (pe_callB (call_isX (K := K) rfl) (by rfl) T.n_isinstance (by decide +kernel) (pa_cons (pv 0) (pa_cons (pe_gref rfl T.m_InvalidTexts) pa_nil))) (pa_cons (pe_callB (call_isX (K := K) rfl) (by rfl) T.n_isinstance (by decide +kernel) (pa_cons (pv 0) (pa_cons (pe_gref rfl T.m_InvalidDeeds) pa_nil))) (pa_cons (pe_callB (call_isX (K := K) rfl) (by rfl) T.n_isinstance (by decide +kernel) (pa_cons (pv 0) (pa_cons (pe_gref rfl T.m_NothingToUndo) pa_nil))) pa_nil))))))
        (pss_cons (ps_set (i := 1) sc__law_refusal.nd rfl (by first | exact Or.inl rfl | exact Or.inr rfl) (pe_op op_addU (pv 1) (pe_lst (pa_cons (pe_callB (call_isX (K := K) rfl) (by rfl) T.n_isinstance (by decide +kernel) (pa_cons (pv 0) (pa_cons (pe_gref rfl T.m_Busy) pa_nil))) (pa_cons (pe_callB (call_isX (K := K) rfl) (by rfl) T.n_isinstance (by decide +kernel) (pa_cons (pv 0) (pa_cons (pe_gref rfl T.m_UnknownName) pa_nil))) (pa_cons (pe_callB (call_isX (K := K) rfl) (by rfl) T.n_isinstance (by decide +kernel) (pa_cons (pv 0) (pa_cons (pe_gref rfl T.m_TooMany) pa_nil))) pa_nil))))))
        (pss_cons (ps_set (i := 2) sc__law_refusal.nd rfl (by first | exact Or.inl rfl | exact Or.inr rfl) (pe_lst (pa_cons (pe_callB (call_isX (K := K) rfl) (by rfl) T.n_isinstance (by decide +kernel) (pa_cons (pv 0) (pa_cons (pe_gref rfl T.m_InputError) pa_nil))) (pa_cons (pe_callB (call_isX (K := K) rfl) (by rfl) T.n_isinstance (by decide +kernel) (pa_cons (pv 0) (pa_cons (pe_gref rfl T.m_StateError) pa_nil))) (pa_cons (pe_callB (call_isX (K := K) rfl) (by rfl) T.n_isinstance (by decide +kernel) (pa_cons (pv 0) (pa_cons (pe_gref rfl T.m_SizeError) pa_nil))) pa_nil)))))
        (pss_cons (ps_set (i := 3) sc__law_refusal.nd rfl (by first | exact Or.inl rfl | exact Or.inr rfl) (pe_lst (pa_cons (pe_callB (call_isX (K := K) rfl) (by rfl) T.n_isinstance (by decide +kernel) (pa_cons (pv 0) (pa_cons (pe_bt "ValueError" rfl T.n_ValueError (by decide +kernel)) pa_nil))) (pa_cons (pe_callB (call_isX (K := K) rfl) (by rfl) T.n_isinstance (by decide +kernel) (pa_cons (pv 0) (pa_cons (pe_bt "LookupError" rfl T.n_LookupError (by decide +kernel)) pa_nil))) (pa_cons (pe_callB (call_isX (K := K) rfl) (by rfl) T.n_isinstance (by decide +kernel) (pa_cons (pv 0) (pa_cons (pe_bt "ArithmeticError" rfl T.n_ArithmeticError (by decide +kernel)) pa_nil))) pa_nil)))))
        (pss_cons (ps_if (PW.pt (pw_or (pt_cmpR (op_neA (K := K) rfl hr64) (pe_bm PySem.F.plainAttrs_list PySem.F.slot_list_count PySem.F.type_list_count mt_countF (pv 1) (pa_cons pe_bl pa_nil)) pe_int (nomark _)) (pw_or1 (pt_cmpR (op_neA (K := K) rfl hr64) (pv 2) (pv 3) (nomark _))))) (pss_one (ps_ret (pe_tup (pa_cons pe_str pa_nil)))) pss_nil)
        (pss_cons (ps_set (i := 4) sc__law_refusal.nd rfl (by first | exact Or.inl rfl | exact Or.inr rfl) (pe_bm PySem.F.plainAttrs_list PySem.F.slot_list_index PySem.F.type_list_index mt_index (pv 1) (pa_cons pe_bl pa_nil)))
        (pss_cons (ps_if (pt_cmpR (op_neA (K := K) rfl hr64) (pv 2) (pe_lst (pa_cons (pe_cmpR op_ltU (pv 4) pe_int (nomark _)) (pa_cons (pe_chain op_ltU op_ltU pe_int (pv 4) pe_int) (pa_cons (pe_cmpR (op_eqA (K := K) rfl hr64) (pv 4) pe_int (nomark _)) pa_nil)))) (nomark _)) (pss_one (ps_ret (pe_tup (pa_cons pe_str pa_nil)))) pss_nil)
        (pss_cons (ps_set (i := 5) sc__law_refusal.nd rfl (by first | exact Or.inl rfl | exact Or.inr rfl) (pe_lst (pa_cons pe_str (pa_cons pe_str (pa_cons pe_str (pa_cons pe_str (pa_cons pe_str (pa_cons pe_str (pa_cons pe_str (pa_cons pe_str (pa_cons pe_str (pa_cons pe_str (pa_cons pe_str (pa_cons pe_str pa_nil))))))))))))))
        (pss_cons (ps_set (i := 5) sc__law_refusal.nd rfl (by first | exact Or.inl rfl | exact Or.inr rfl) (pe_op op_addU (pv 5) (pe_lst (pa_cons pe_str (pa_cons pe_str (pa_cons pe_str (pa_cons pe_str (pa_cons pe_str (pa_cons pe_str pa_nil)))))))))
        (pss_cons (ps_if (pt_cmpR (op_inK (K := K) rfl) (pv 4) (pe_lst (pa_cons pe_int (pa_cons pe_int pa_nil))) (by rfl)) (pss_one (ps_ret (pe_tup (pa_cons (pe_ix (ix_K (K := K) rfl) (pv 5) (pv 4) (fun _ _ => rfl)) pa_nil)))) pss_nil)
        (pss_cons (ps_if (pt_cmpR (op_eqA (K := K) rfl hr64) (pv 4) pe_int (nomark _)) (pss_one (ps_ret (pe_tup (pa_cons (pe_ix (ix_K (K := K) rfl) (pv 5) (pv 4) (fun _ _ => rfl)) (pa_cons (pe_xfT (K := K) rfl (pv 0)) pa_nil))))) pss_nil)
        (pss_one (ps_ret (pe_ifExp (pt_chain op_ltU op_ltU pe_int (pv 4) pe_int) (pe_tup (pa_cons (pe_ix (ix_K (K := K) rfl) (pv 5) (pv 4) (fun _ _ => rfl)) (pa_cons (pe_xfT (K := K) rfl (pv 0)) pa_nil))) (pe_tup (pa_cons (pe_ix (ix_K (K := K) rfl) (pv 5) (pv 4) (fun _ _ => rfl)) (pa_cons (pe_xfT (K := K) rfl (pv 0)) pa_nil))))))))))))))))))))), ?_⟩
    refine ⟨_, inferInstance, fun ds M R h => ?_⟩
    obtain ⟨a, C, fs, k, rfl, ha, F, hk, q1, q2⟩ := h
    rw [st__law_refusal]
    walk_at "dx"
    refine isx_c ha F.ex F.k0 ?_
    walk_at "dx"
    refine isx_c ha F.ex F.k1 ?_
    walk_at "dx"
    refine isx_c ha F.ex F.k2 ?_
    walk_at "dx"
    refine isx_c ha F.ex F.k3 ?_
    walk_at "dx"
    refine isx_c ha F.ex F.k4 ?_
    walk_at "dx"
    refine isx_c ha F.ex F.k5 ?_
    walk_at "dx"
    refine V.x_addL ⟨by simp [sizeLine_eq], ?_⟩
    walk_at "dx"
    refine isx_c ha F.ex F.k6 ?_
    walk_at "dx"
    refine isx_c ha F.ex F.k7 ?_
    walk_at "dx"
    refine isx_c ha F.ex F.k8 ?_
    walk_at "dx"
    refine V.x_addL ⟨by simp [sizeLine_eq], ?_⟩
    walk_at "dx"
    refine isx_c ha F.ex F.k9 ?_
    walk_at "dx"
    refine isx_c ha F.ex F.k10 ?_
    walk_at "dx"
    refine isx_c ha F.ex F.k11 ?_
    walk_at "dx"
    refine V.x_addL ⟨by simp [sizeLine_eq], ?_⟩
    walk_at "dx"
    refine isx_c ha F.ex F.k12 ?_
    walk_at "dx"
    refine isx_c ha F.ex F.k13 ?_
    walk_at "dx"
    refine isx_c ha F.ex F.k14 ?_
    walk_at "dx"
    refine V.x_addL ⟨by simp [sizeLine_eq], ?_⟩
    walk_at "dx"
    refine isx_c ha F.ex F.k15 ?_
    walk_at "dx"
    refine isx_c ha F.ex F.k16 ?_
    walk_at "dx"
    refine isx_c ha F.ex F.k17 ?_
    walk_at "dx"
    refine V.x_addL ⟨by simp [sizeLine_eq], ?_⟩
    walk_at "dx"
    refine isx_c ha F.ex F.k18 ?_
    walk_at "dx"
    refine isx_c ha F.ex F.k19 ?_
    walk_at "dx"
    refine isx_c ha F.ex F.k20 ?_
    walk_at "dx"
    refine isx_t ha F.ex F.k21 ?_
    walk_at "dx"
    refine isx_t ha F.ex F.k22 ?_
    walk_at "dx"
    refine isx_t ha F.ex F.k23 ?_
    walk_at "dx"
    refine x_cntB ?_
    walk_at "dx"
    refine ⟨rowsB k, rfl, ?_⟩
    walk_at "dx"
    refine ⟨true, rfl, ?_⟩
    walk_at "dx"
    rw [show (rowsB k).count true = 1 from (show ∀ k, k < 18 → (rowsB k).count true = 1 by decide) k hk]
    walk_at "dx"
    refine ne_bools (bs := underB k) (cs := underB k) ?_
    rw [decide_eq_true rfl]
    walk_at "dx"
    refine x_idxB ?_
    walk_at "dx"
    refine ⟨rowsB k, rfl, ?_⟩
    walk_at "dx"
    refine ⟨true, rfl, (show ∀ k, k < 18 → true ∈ rowsB k by decide) k hk, ?_⟩
    rw [show (rowsB k).idxOf true = k from (show ∀ k, k < 18 → (rowsB k).idxOf true = k by decide) k hk]
    walk_at "dx"
    have e14 : decide ((k : Int) < 14) = decide (k < 14) := decide_eq_decide.mpr (by omega)
    have e17 : decide ((k : Int) = 17) = decide (k = 17) := decide_eq_decide.mpr (by omega)
    by_cases h13 : 13 < k
    · rw [decide_eq_true (show (13 : Int) < (k : Nat) by omega), if_pos rfl]
      walk_at "dx"
      refine ne_bools (bs := underB k) (cs := [decide ((k : Int) < 14), decide ((k : Int) < 17), decide ((k : Int) = 17)]) ?_
      rw [show underB k = [decide ((k : Int) < 14), decide ((k : Int) < 17), decide ((k : Int) = 17)] by
        unfold underB
        rw [e14, e17, decide_eq_true h13, Bool.true_and, show decide ((k : Int) < 17) = decide (k < 17) from decide_eq_decide.mpr (by omega)], decide_eq_true rfl]
      walk_at "dx"
      refine V.x_addL ⟨by simp [sizeLine_eq], ?_⟩
      walk_at "dx"
      refine in_1415 ?_
      by_cases h15 : k = 14 ∨ k = 15
      · rw [decide_eq_true h15]
        walk_at "dx"
        refine ⟨_, _, .inl rfl, atI_nat (word_at hk), ?_⟩
        walk_at "dx"
        exact q1 h15
      · rw [decide_eq_false h15]
        walk_at "dx"
        obtain ⟨y, rfl, hn, q⟩ := q2 (fun z => h15 (.inl z)) (fun z => h15 (.inr z))
        by_cases h17 : k = 17
        · rw [decide_eq_true (show (k : Int) = 17 by omega)]
          walk_at "dx"
          refine ⟨_, _, .inl rfl, atI_nat (word_at hk), ?_⟩
          have ea : rfAttr k = Str.ofString "limit" := if_pos h17
          rw [ea] at ha hn
          refine x_xf ?_
          walk_at "dx"
          refine ⟨a, C, _, y, rfl, ha, F.xf, hn, by simp [List.lookup], ?_⟩
          walk_at "dx"
          exact q
        · rw [decide_eq_false (show ¬ (k : Int) = 17 by omega)]
          walk_at "dx"
          have ea : rfAttr k = Str.ofString "value" := (if_neg h17).trans (if_neg (by omega))
          rw [ea] at ha hn
          refine ⟨_, _, .inl rfl, atI_nat (word_at hk), ?_⟩
          refine x_xf ?_
          walk_at "dx"
          refine ⟨a, C, _, y, rfl, ha, F.xf, hn, by simp [List.lookup], ?_⟩
          walk_at "dx"
          exact q
    · rw [decide_eq_false (show ¬ (13 : Int) < (k : Nat) by omega), if_neg Bool.false_ne_true]
      walk_at "dx"
      refine ne_bools (bs := underB k) (cs := [decide ((k : Int) < 14), false, decide ((k : Int) = 17)]) ?_
      rw [show underB k = [decide ((k : Int) < 14), false, decide ((k : Int) = 17)] by
        unfold underB
        rw [e14, e17, decide_eq_false h13, Bool.false_and], decide_eq_true rfl]
      walk_at "dx"
      refine V.x_addL ⟨by simp [sizeLine_eq], ?_⟩
      walk_at "dx"
      refine in_1415 ?_
      rw [decide_eq_false (show ¬ (k = 14 ∨ k = 15) by omega)]
      walk_at "dx"
      obtain ⟨y, rfl, hn, q⟩ := q2 (by omega) (by omega)
      by_cases h9 : 9 < k
      · have ea : rfAttr k = Str.ofString "index" := (if_neg (by omega)).trans (if_pos (by omega))
        rw [ea] at ha hn
        rw [decide_eq_true (show (9 : Int) < (k : Nat) by omega), if_pos rfl]
        walk_at "dx"
        refine ⟨_, _, .inl rfl, atI_nat (word_at hk), ?_⟩
        refine x_xf ?_
        walk_at "dx"
        refine ⟨a, C, _, y, rfl, ha, F.xf, hn, by simp [List.lookup], ?_⟩
        walk_at "dx"
        exact q
      · have ea : rfAttr k = Str.ofString "value" := (if_neg (by omega)).trans (if_neg (by omega))
        rw [ea] at ha hn
        rw [decide_eq_false (show ¬ (9 : Int) < (k : Nat) by omega), if_neg Bool.false_ne_true]
        walk_at "dx"
        refine ⟨_, _, .inl rfl, atI_nat (word_at hk), ?_⟩
        refine x_xf ?_
        walk_at "dx"
        refine ⟨a, C, _, y, rfl, ha, F.xf, hn, by simp [List.lookup], ?_⟩
        walk_at "dx"
        exact q
/-- what is told of a refusal with a value -/
theorem ref_val (T : Tx K mg) {C : Addr} {k : Nat} {f : Str} {y : D} {M : Mem} {R : QD} (ha : PySem.W.exmAny K (.ref C) [.ref T.C_InputError, .ref T.C_StateError, .ref T.C_SizeError] = some true) (F : RfX T C k) (hf : rfAttr k = f) (hn : PySem.W.findIn K (.ref C) f = some none) (q : R (.tup [.str (rfWord k), y]) M) (hk : k < 18 := by decide) (h14 : k ≠ 14 := by decide) (h15 : k ≠ 15 := by decide) :
    triedQ K (.ref T.C_InputError) (.ref T.C_StateError) (.ref T.C_SizeError) (spRefuse T) R C [(f, y)] M := by
  subst hf
  exact ⟨ha, fun a na => ⟨a, C, _, k, rfl, mset_same, F, hk, fun h => absurd h (by omega), fun _ _ => ⟨y, rfl, hn, M, mle_set na, q⟩⟩⟩
/-- .. without one -/
theorem ref_no (T : Tx K mg) {C : Addr} {k : Nat} {fs : List (Str × D)} {M : Mem} {R : QD} (ha : PySem.W.exmAny K (.ref C) [.ref T.C_InputError, .ref T.C_StateError, .ref T.C_SizeError] = some true) (F : RfX T C k) (hk : k = 14 ∨ k = 15) (q : R (.tup [.str (rfWord k)]) M) :
    triedQ K (.ref T.C_InputError) (.ref T.C_StateError) (.ref T.C_SizeError) (spRefuse T) R C fs M :=
  ⟨ha, fun a na => ⟨a, C, _, k, rfl, mset_same, F, by omega, fun _ => ⟨M, mle_set na, q⟩, fun h h2 => absurd hk (by omega)⟩⟩
theorem tried__law_tried (T : Tx K mg) {X : Cx} (eP : X.prog = P) (ew : X.w = w) (eK : X.K = K) (em : X.mg = mg) (eb : X.base = base) (hr : L2H.RoomH (lv__law_refusal + 1) X.A) (cdv : Value) (q : Str) : LamX.GivesTo X n__law_tried "_law_tried" (L2.defScope s__law_tried) T.f__law_tried cdv (L2.defBody s__law_tried) "_law_act" q (TTtried K (.ref T.C_InputError) (.ref T.C_StateError) (.ref T.C_SizeError) (lift (spRefuse T))) := by
  subst eP ew eK em eb
  exact tried_gives rfl (by decide +kernel) rfl rfl rfl rfl (by decide) (by decide) (by decide) (by decide) rfl rfl rfl rfl T.m_InputError T.m_StateError T.m_SizeError T.m__law_refusal (by decide) (by decide) (by decide) (by decide) (okQ__law_refusal T) T.F__law_refusal.kp T.b__law_refusal hr (fun _ => rfl) (fun _ => rfl)
end
end G
namespace G
open PySem PySem.Spec PyProof.Rows L2 U V
section
variable {P : Program} {w : World} {K : PySem.W.Frag} {mg : Str → Option Value} {base : Heap}
theorem fldN_rule (T : Tx K mg) {r : Ru} {wd : Nat} {M : Mem} {R : QD} (q : R (.str r.str) M) : rFld1 K (Str.ofString "rule") (namerD T.C_Namer r wd) M R := V.x_fldI (ns := ["rule", "width"]) 0 rfl rfl T.c_Namer T.na_Namer_rule (by decide +kernel) q
theorem fldN_width (T : Tx K mg) {r : Ru} {wd : Nat} {M : Mem} {R : QD} (q : R (.int (wd : Nat)) M) : rFld1 K (Str.ofString "width") (namerD T.C_Namer r wd) M R := V.x_fldI (ns := ["rule", "width"]) 1 rfl rfl T.c_Namer T.na_Namer_width (by decide +kernel) q
def spNmEq (C : Addr) (K : PySem.W.Frag) : DC := fun ds M R => ∃ (r : Ru) (wd : Nat) (y : D), ds = [namerD C r wd, y] ∧ ((∃ r2 wd2, y = namerD C r2 wd2 ∧ R (.bl (decide (r.str = r2.str) && decide (wd = wd2))) M) ∨ (∃ t : String, TyD K M y (.type t) ∧ t ∈ ["NoneType", "bool", "int", "str", "list", "tuple", "dict"] ∧ R (.bl false) M))
theorem okD_Namer___eq__ (T : Tx K mg) : FnOk P w K mg base L2.CX0 lv_Namer___eq__ T.f_Namer___eq__ T.d_Namer___eq__ p_Namer___eq__ (lift (spNmEq T.C_Namer K)) := by
  refine fnD T.F_Namer___eq__ sc_Namer___eq__ (fun ds M R h => ?_) (fun cdv A outer s H E hr => ?_)
  · first | (obtain ⟨rfl, _⟩ := h; rfl) | (obtain ⟨_, rfl, _⟩ := h; rfl) | (obtain ⟨_, _, rfl, _⟩ := h; rfl) | (obtain ⟨_, _, _, rfl, _⟩ := h; rfl) | (obtain ⟨_, _, _, _, rfl, _⟩ := h; rfl) | (obtain ⟨_, _, _, _, _, rfl, _⟩ := h; rfl) | (obtain ⟨_, _, _, _, _, _, rfl, _⟩ := h; rfl) | (obtain ⟨_, _, _, _, _, _, _, rfl, _⟩ := h; rfl) | (obtain ⟨_, _, _, _, _, _, _, _, rfl, _⟩ := h; rfl)
  · have hr64 := hr.units
    have hc_Namer := T.c_Namer
    have hi_Namer := T.i_Namer
    have hn_Namer_rule := T.na_Namer_rule
    have hn_Namer_width := T.na_Namer_width
    have hc_Shelf := T.c_Shelf
    have hi_Shelf := T.i_Shelf
    have hn_Shelf_namer := T.na_Shelf_namer
    have hn_Shelf_there := T.na_Shelf_there
    have hn_Shelf_texts := T.na_Shelf_texts
    have hn_Shelf_names := T.na_Shelf_names
    have hn_Shelf_past := T.na_Shelf_past
    have hn_Shelf_moment := T.na_Shelf_moment
    have hn_Shelf_busy := T.na_Shelf_busy
    refine ⟨_, (pss_one (ps_ret (pe_and (pe_callB (call_isiK (K := K) rfl) (by rfl) T.n_isinstance (by decide +kernel) (pa_cons (pv 1) (pa_cons (pe_gref rfl T.m_Namer) pa_nil))) (pe_and (pe_cmpR (op_eqA (K := K) rfl hr64) (pe_fldK (K := K) rfl (pv 0)) (pe_fldK (K := K) rfl (pv 1)) (nomark _)) (pe_one (pe_cmpR (op_eqA (K := K) rfl hr64) (pe_fldK (K := K) rfl (pv 0)) (pe_fldK (K := K) rfl (pv 1)) (nomark _))))))), ?_⟩
    refine ⟨_, inferInstance, fun ds M R h => ?_⟩
    obtain ⟨r, wd, y, rfl, h⟩ := h
    rw [st_Namer___eq__]
    walk_at "dx"
    rcases h with ⟨r2, wd2, rfl, q⟩ | ⟨t, ty, ht, q⟩
    · refine ⟨_, true, .ins (.inl rfl) T.i_Namer, T.i_Namer.me, ?_⟩
      walk_at "dx"
      refine fldN_rule T ?_
      walk_at "dx"
      refine fldN_rule T ?_
      walk_at "dx"
      by_cases c : r.str = r2.str
      · rw [decide_eq_true c, Bool.true_and] at q
        rw [decide_eq_true c, if_pos rfl]
        walk_at "dx"
        refine fldN_width T ?_
        walk_at "dx"
        refine fldN_width T ?_
        walk_at "dx"
        rw [show decide (((wd : Nat) : Int) = (wd2 : Nat)) = decide (wd = wd2) from decide_eq_decide.mpr (by omega)]
        exact q
      · rw [decide_eq_false c, Bool.false_and] at q
        rw [decide_eq_false c, if_neg Bool.false_ne_true]
        exact q
    · refine ⟨_, false, ty, T.kt_Namer t ht, ?_⟩
      walk_at "dx"
      exact q
end
end G
namespace G
open PySem PySem.Spec PyProof.Rows L2 U V
def thD (l : List (Str × Str)) : D := .tup (l.map pD)
def okTh (l : List (Str × Str)) : Prop := ∀ p ∈ l, okText 200 p.1 = true ∧ okText 43 p.2 = true
section
variable {P : Program} {w : World} {K : PySem.W.Frag} {mg : Str → Option Value} {base : Heap}
def spBaseD (C : Addr) : DC := fun ds M R => ∃ (r : Ru) (wd : Nat) (t : Str), ds = [namerD C r wd, .str t] ∧ t.length ≤ 4000000 ∧ R (.str (tkS wd t)) M
theorem okD_Namer_base_of (T : Tx K mg) : FnOk P w K mg base L2.CX0 lv_Namer_base_of T.f_Namer_base_of T.d_Namer_base_of p_Namer_base_of (lift (spBaseD T.C_Namer)) := fn_weak (GO.ok_Namer_base_of T) (by
  rintro vs H Q E ⟨S, M, ds, R, w, h, ⟨r, wd, t, rfl, ht, q⟩, k⟩
  match vs, h with
  | [_, _], .cons h1 (.cons (.str _) .nil) => exact ⟨_, t, r, wd, rfl, dt_n0 h1, ht, k _ S M _ H q .refl w (.str _)⟩)
theorem cutS_toN (z : Str) (n : Nat) : cutS z none (some ((n : Nat) : Int)) = tkS n z := cutS_to ..
theorem x_tilJ {δ : Dl} {M : Mem} {PS : Str → Mem → Prop} {i n : Nat} (hi : δ[i]? = some (some (.int (n : Nat)))) (hn : n < 100) (q : PS (til n) M) : dJs [dC (.str (Str.ofString "~")), dFmt (dVar i)] Str.empty δ M PS := by
  obtain ⟨_, _, _, h4, h5, _⟩ := til_rev n hn
  have l1 : (Str.empty ++ Str.ofString "~").length ≤ sizeLine := by rw [sizeLine_eq]; decide +kernel
  have e1 : Str.empty ++ Str.ofString "~" = Str.ofString "~" := empty_append _
  refine x_js (x_c ⟨_, rfl, l1, x_js (x_fmtV hi (log_small (by omega)) ⟨_, rfl, ?_, x_js0 ?_⟩)⟩)
  · rw [e1]
    show (til n).length ≤ _
    rw [sizeLine_eq]; omega
  · rw [e1]
    exact q
theorem fld_rule (T : Tx K mg) {r : Ru} {wd : Nat} {M : Mem} {R : QD} (q : R (.str r.str) M) : rFld1 K (Str.ofString "rule") (namerD T.C_Namer r wd) M R := V.x_fldI (ns := ["rule", "width"]) 0 rfl rfl T.c_Namer T.na_Namer_rule (by decide +kernel) q
theorem namer_no {C : Addr} {r : Ru} {wd : Nat} {M : Mem} {m : Str} (h : m ∉ (["rule", "width"] : List Str)) : ∃ ns xs, isIn M (namerD C r wd) C ns xs ∧ m ∉ ns := ⟨_, _, .inl rfl, h⟩
def spNumD (C : Addr) : DC := fun ds M R => ∃ (r : Ru) (wd : Nat) (b : Str) (n : Nat), ds = [namerD C r wd, .str b, .int (n : Nat)] ∧ 6 ≤ wd ∧ b.length ≤ 4000000 ∧ n < 100 ∧ R (.str (numG r wd b n)) M
theorem okD_Namer_numbered (T : Tx K mg) : FnOk P w K mg base L2.CX0 lv_Namer_numbered T.f_Namer_numbered T.d_Namer_numbered p_Namer_numbered (lift (spNumD T.C_Namer)) := by
  refine fnD T.F_Namer_numbered sc_Namer_numbered (fun ds M R h => ?_) (fun cdv A outer s H E hr => ?_)
  · first | (obtain ⟨rfl, _⟩ := h; rfl) | (obtain ⟨_, rfl, _⟩ := h; rfl) | (obtain ⟨_, _, rfl, _⟩ := h; rfl) | (obtain ⟨_, _, _, rfl, _⟩ := h; rfl) | (obtain ⟨_, _, _, _, rfl, _⟩ := h; rfl) | (obtain ⟨_, _, _, _, _, rfl, _⟩ := h; rfl) | (obtain ⟨_, _, _, _, _, _, rfl, _⟩ := h; rfl) | (obtain ⟨_, _, _, _, _, _, _, rfl, _⟩ := h; rfl) | (obtain ⟨_, _, _, _, _, _, _, _, rfl, _⟩ := h; rfl)
  · have hr64 := hr.units
    have hc_Namer := T.c_Namer
    have hi_Namer := T.i_Namer
    have hn_Namer_rule := T.na_Namer_rule
    have hn_Namer_width := T.na_Namer_width
    have hc_Shelf := T.c_Shelf
    have hi_Shelf := T.i_Shelf
    have hn_Shelf_namer := T.na_Shelf_namer
    have hn_Shelf_there := T.na_Shelf_there
    have hn_Shelf_texts := T.na_Shelf_texts
    have hn_Shelf_names := T.na_Shelf_names
    have hn_Shelf_past := T.na_Shelf_past
    have hn_Shelf_moment := T.na_Shelf_moment
    have hn_Shelf_busy := T.na_Shelf_busy
    refine ⟨_, (pss_cons (ps_set (i := 3) sc_Namer_numbered.nd rfl (by first | exact Or.inl rfl | exact Or.inr rfl) (pe_joinedD (.cons pe_str (.cons (pe_fmt (pv 2)) .nil))))
        (pss_cons (ps_if (pt_cmpR (op_eqA (K := K) rfl hr64) (pe_fldK (K := K) rfl (pv 0)) pe_str (nomark _)) (pss_one (ps_set (i := 1) sc_Namer_numbered.nd rfl (by first | exact Or.inl rfl | exact Or.inr rfl) (pe_slice (sl_Z (K := K) rfl) (pv 1) po_none (po_some (pe_op op_sub (pe_fldK (K := K) rfl (pv 0)) (pe_callB (call_lenK (K := K) rfl) (by rfl) T.n_len (by decide +kernel) (pa_cons (pv 3) pa_nil))))))) pss_nil)
        (pss_one (ps_ret (pe_op op_addU (pv 1) (pv 3)))))), ?_⟩
    refine ⟨_, inferInstance, fun ds M R h => ?_⟩
    obtain ⟨r, wd, b, n, rfl, h6, hb, hn, q⟩ := h
    obtain ⟨_, _, _, h4, h5, _⟩ := til_rev n hn
    rw [st_Namer_numbered]
    unfold namerD
    walk_at "dx"
    refine x_tilJ rfl hn ?_
    walk_at "dx"
    have l1 : (til n).length ≤ sizeLine := by rw [sizeLine_eq]; omega
    cases r with
    | tight =>
      rw [decide_eq_true (show Ru.tight.str = Str.ofString "tight" by decide +kernel)]
      walk_at "dx"
      refine V.x_lenS ⟨l1, ?_⟩
      walk_at "dx"
      refine V.x_slS ⟨by rw [sizeLine_eq]; omega, ?_⟩
      rw [show ((wd : Int) - ((til n).length : Nat)) = ((wd - (til n).length : Nat) : Int) by omega, cutS_toN]
      walk_at "dx"
      refine V.x_addS ⟨?_, q⟩
      rw [tkS_len, sizeLine_eq]
      omega
    | count =>
      rw [decide_eq_false (show ¬ Ru.count.str = Str.ofString "tight" by decide +kernel)]
      walk_at "dx"
      exact V.x_addS ⟨by rw [sizeLine_eq]; omega, q⟩
    | free =>
      rw [decide_eq_false (show ¬ Ru.free.str = Str.ofString "tight" by decide +kernel)]
      walk_at "dx"
      exact V.x_addS ⟨by rw [sizeLine_eq]; omega, q⟩
theorem any_txt (l : List Str) (z : Str) : (l.map D.str).any (fun e => D.eqb e (.str z)) = decide (z ∈ l) := by
  induction l with
  | nil => simp
  | cons a l ih =>
    rw [List.map_cons, List.any_cons, ih]
    rw [show D.eqb (.str a) (.str z) = decide (a = z) by rw [D.eqb]; by_cases h : a = z <;> simp [h]]
    by_cases c : a = z
    · subst c; simp
    · have c' : z ≠ a := fun e => c e.symm
      simp [c, c']
theorem in_txts {l : List Str} {z : Str} {M : Mem} {R : QD} (q : R (.bl (decide (z ∈ l))) M) : rIn1 (.str z) (.lst (l.map D.str)) M R := ⟨_, .inl rfl, rfl, by simp [flatD], by rw [any_txt]; exact q⟩
theorem nin_txts {l : List Str} {z : Str} {M : Mem} {R : QD} (q : R (.bl (!decide (z ∈ l))) M) : rNin1 (.str z) (.lst (l.map D.str)) M R := ⟨_, .inl rfl, rfl, by simp [flatD], by rw [any_txt]; exact q⟩
def spNameForT (C : Addr) : DC := fun ds M R => ∃ (r : Ru) (wd : Nat) (t : Str) (l : List (Str × Str)), ds = [namerD C r wd, .str t, thD l] ∧ 6 ≤ wd ∧ wd ≤ 40 ∧ okText 200 t = true ∧ l.length ≤ 40 ∧ okTh l ∧ R (.str (nameG r wd t l)) M
theorem okD_name_forT (T : Tx K mg) : FnOk P w K mg base L2.CX0 lv_Namer_name_for T.f_Namer_name_for T.d_Namer_name_for p_Namer_name_for (lift (spNameForT T.C_Namer)) := by
  refine fnD T.F_Namer_name_for sc_Namer_name_for (fun ds M R h => ?_) (fun cdv A outer s H E hr => ?_)
  · first | (obtain ⟨rfl, _⟩ := h; rfl) | (obtain ⟨_, rfl, _⟩ := h; rfl) | (obtain ⟨_, _, rfl, _⟩ := h; rfl) | (obtain ⟨_, _, _, rfl, _⟩ := h; rfl) | (obtain ⟨_, _, _, _, rfl, _⟩ := h; rfl) | (obtain ⟨_, _, _, _, _, rfl, _⟩ := h; rfl) | (obtain ⟨_, _, _, _, _, _, rfl, _⟩ := h; rfl) | (obtain ⟨_, _, _, _, _, _, _, rfl, _⟩ := h; rfl) | (obtain ⟨_, _, _, _, _, _, _, _, rfl, _⟩ := h; rfl)
  · have hr64 := hr.units
    have hc_Namer := T.c_Namer
    have hi_Namer := T.i_Namer
    have hn_Namer_rule := T.na_Namer_rule
    have hn_Namer_width := T.na_Namer_width
    have hc_Shelf := T.c_Shelf
    have hi_Shelf := T.i_Shelf
    have hn_Shelf_namer := T.na_Shelf_namer
    have hn_Shelf_there := T.na_Shelf_there
    have hn_Shelf_texts := T.na_Shelf_texts
    have hn_Shelf_names := T.na_Shelf_names
    have hn_Shelf_past := T.na_Shelf_past
    have hn_Shelf_moment := T.na_Shelf_moment
    have hn_Shelf_busy := T.na_Shelf_busy
    refine ⟨_, (pss_cons (ps_set (i := 3) sc_Namer_name_for.nd rfl (by first | exact Or.inl rfl | exact Or.inr rfl) (pe_meth (pv 0) T.c_Namer T.t_Namer_base_of (okD_Namer_base_of T) (hr.mono (by decide)) T.b_Namer_base_of .nil pass0 (pa_cons (pv 1) pa_nil)))
        (pss_cons (ps_if (pt_cmpR (op_eqA (K := K) rfl hr64) (pe_fldK (K := K) rfl (pv 0)) pe_str (nomark _)) (pss_cons (ps_setLc (i := 4) (own := [("mate", 7), ("name", 8)]) rfl sc_Namer_name_for.nd rfl rfl (sw_true rfl rfl rfl (by decide +kernel)) (pi_tupK (K := K) rfl (pv 2)) (blkOk_by (N := ["self", "text", "there", "base", "alike", "taken", "number", "mate", "name"]) (sc := L2.defScope s_Namer_name_for) (by decide +kernel)) (fun _ _ _ _ _ => (pg_tupK (K := K) (n := 2) rfl rfl (pgs_cons (pg_name (i := 7) sc_Namer_name_for.nd rfl (by first | exact Or.inl rfl | exact Or.inr rfl)) (pgs_cons (pg_name (i := 8) sc_Namer_name_for.nd rfl (by first | exact Or.inl rfl | exact Or.inr rfl)) pgs_nil)))) (fun _ _ _ _ _ => (pts_one (pt_cmpR (op_eqA (K := K) rfl hr64) (pe_meth (pv 0) T.c_Namer T.t_Namer_base_of (okD_Namer_base_of T) (hr.mono (by decide)) T.b_Namer_base_of .nil pass0 (pa_cons (pv 7) pa_nil)) (pv 3) (nomark _)))) (fun _ _ _ _ _ => (pv 7)))
        (pss_one (ps_ret (pe_ifExp (pt_cmpR (op_eqA (K := K) rfl hr64) (pe_callB (call_lenK (K := K) rfl) (by rfl) T.n_len (by decide +kernel) (pa_cons (pv 4) pa_nil)) pe_int (nomark _)) (pv 3) (pe_meth (pv 0) T.c_Namer T.t_Namer_numbered (okD_Namer_numbered T) (hr.mono (by decide)) T.b_Namer_numbered .nil pass0 (pa_cons (pv 3) (pa_cons (pe_op op_addU (pe_callB (call_lenK (K := K) rfl) (by rfl) T.n_len (by decide +kernel) (pa_cons (pv 4) pa_nil)) pe_int) pa_nil))))))) pss_nil)
        (pss_cons (ps_setLc (i := 5) (own := [("mate", 7), ("name", 8)]) rfl sc_Namer_name_for.nd rfl rfl (sw_true rfl rfl rfl (by decide +kernel)) (pi_tupK (K := K) rfl (pv 2)) (blkOk_by (N := ["self", "text", "there", "base", "alike", "taken", "number", "mate", "name"]) (sc := L2.defScope s_Namer_name_for) (by decide +kernel)) (fun _ _ _ _ _ => (pg_tupK (K := K) (n := 2) rfl rfl (pgs_cons (pg_name (i := 7) sc_Namer_name_for.nd rfl (by first | exact Or.inl rfl | exact Or.inr rfl)) (pgs_cons (pg_name (i := 8) sc_Namer_name_for.nd rfl (by first | exact Or.inl rfl | exact Or.inr rfl)) pgs_nil)))) (fun _ _ _ _ _ => pts_nil) (fun _ _ _ _ _ => (pv 8)))
        (pss_cons (ps_if (pt_cmpR (op_ninK (K := K) rfl) (pv 3) (pv 5) (by rfl)) (pss_one (ps_ret (pv 3))) pss_nil)
        (pss_cons (ps_set (i := 6) sc_Namer_name_for.nd rfl (by first | exact Or.inl rfl | exact Or.inr rfl) (C8.pe_gc rfl T.k_FIRST_NUMBER))
        (pss_cons (ps_while PassesOwn.never (pt_cmpR (op_inK (K := K) rfl) (pe_meth (pv 0) T.c_Namer T.t_Namer_numbered (okD_Namer_numbered T) (hr.mono (by decide)) T.b_Namer_numbered .nil pass0 (pa_cons (pv 3) (pa_cons (pv 6) pa_nil))) (pv 5) (by rfl)) (pss_one (ps_aug (i := 6) sc_Namer_name_for.nd rfl (by first | exact Or.inl rfl | exact Or.inr rfl) pe_int ip_add)))
        (pss_one (ps_ret (pe_meth (pv 0) T.c_Namer T.t_Namer_numbered (okD_Namer_numbered T) (hr.mono (by decide)) T.b_Namer_numbered .nil pass0 (pa_cons (pv 3) (pa_cons (pv 6) pa_nil))))))))))), ?_⟩
    refine ⟨_, inferInstance, fun ds M R h => ?_⟩
    obtain ⟨r, wd, t, l, rfl, h6, h40, ot, hl, lo, q⟩ := h
    have ht := (okText_iff.mp ot).1
    rw [st_Namer_name_for]
    walk_at "dx"
    refine ⟨namer_no (by decide +kernel), ?_⟩
    walk_at "dx"
    refine ⟨r, wd, t, rfl, by omega, ?_⟩
    walk_at "dx"
    refine fld_rule T ?_
    walk_at "dx"
    have hb : (tkS wd t).length ≤ 200 := by rw [tkS_len]; omega
    by_cases hc : r = .count
    · subst hc
      rw [decide_eq_true (show Ru.count.str = Str.ofString "count" from rfl)]
      walk_at "dx"
      refine ⟨_, rfl, trivial, by rw [List.length_map]; omega, ?_⟩
      refine gather_map (f := fun d => match d with | .tup (x :: _) => x | d => d) (p := fun d => match d with | .tup (.str x :: _) => decide (tkS wd x = tkS wd t) | _ => false) ?_ trivial ?_
      · intro x hx Ky Kn hy hn
        obtain ⟨⟨y, z⟩, hp, rfl⟩ := List.mem_map.mp hx
        have oy := (okText_iff.mp (lo _ hp).1).1
        have oy : y.length ≤ 200 := oy
        unfold pD
        walk_at "dx"
        refine ⟨namer_no (by decide +kernel), ?_⟩
        walk_at "dx"
        refine ⟨.count, wd, y, rfl, by omega, ?_⟩
        walk_at "dx"
        refine x_ite _ (fun c => ?_) (fun c => ?_)
        · walk_at "dx"
          exact hy (decide_eq_true c)
        · exact hn (decide_eq_false c)
      walk_at "dx"
      have el : (List.map (fun d => match d with | D.tup (x :: _) => x | d => d) (List.filter (fun d => match d with | D.tup (D.str x :: _) => decide (tkS wd x = tkS wd t) | _ => false) (List.map pD l))).length = matesN wd t l := by
        rw [List.length_map, List.filter_map, List.length_map]
        rfl
      rw [el]
      have mle := mates_le wd t l
      unfold nameG at q
      simp only at q
      refine x_ite _ (fun c => ?_) (fun c => ?_)
      · walk_at "dx"
        rw [if_pos (by omega)] at q
        exact q
      · walk_at "dx"
        refine ⟨namer_no (by decide +kernel), ?_⟩
        walk_at "dx"
        rw [if_neg (by omega)] at q
        rw [el]
        exact ⟨.count, wd, tkS wd t, matesN wd t l + 1, rfl, h6, by omega, by omega, q⟩
    · rw [decide_eq_false (show ¬ r.str = Str.ofString "count" by cases r <;> first | exact absurd rfl hc | decide +kernel)]
      walk_at "dx"
      refine ⟨_, rfl, trivial, by rw [List.length_map]; omega, ?_⟩
      refine gather_all (f := fun d => match d with | .tup [_, y] => y | d => d) ?_ trivial ?_
      · intro x hx Ky hy
        obtain ⟨⟨y, z⟩, hp, rfl⟩ := List.mem_map.mp hx
        unfold pD
        walk_at "dx"
        exact hy
      have em : (l.map pD).map (fun d => match d with | D.tup [_, y] => y | d => d) = (l.map (·.2)).map D.str := by rw [List.map_map, List.map_map]; rfl
      rw [em]
      have hq : nameG r wd t l = if tkS wd t ∈ l.map (·.2) then numG r wd (tkS wd t) (nextN (l.map (·.2)) (numG r wd (tkS wd t)) l.length 2) else tkS wd t := by
        cases r with
        | count => exact absurd rfl hc
        | free => rfl
        | tight => rfl
      rw [hq] at q
      clear hq em
      walk_at "dx"
      refine nin_txts ?_
      by_cases c : tkS wd t ∈ l.map (·.2)
      · rw [if_pos c] at q
        rw [decide_eq_true c]
        walk_at "dx"
        obtain ⟨m, m2, m3, m4, m5, m6⟩ := nextG (r := r) (w := wd) (b := tkS wd t) (tk := l.map (·.2)) (by rw [List.length_map]; omega)
        rw [List.length_map] at m3 m6
        rw [m6] at q
        refine ⟨fun k δ M' => M' = M ∧ ∃ n : Nat, 2 ≤ n ∧ n + k = m ∧ δ = [some (namerD T.C_Namer r wd), some (.str t), some (thD l), some (.str (tkS wd t)), none, some (.lst ((l.map (·.2)).map D.str)), some (.int (n : Nat)), none, none], ⟨m - 2, rfl, 2, by omega, by omega, rfl⟩, ?_⟩
        rintro k δ M' ⟨rfl, n, n2, nk, rfl⟩
        walk_at "dx"
        refine ⟨namer_no (by decide +kernel), ?_⟩
        walk_at "dx"
        refine ⟨r, wd, tkS wd t, n, rfl, h6, by omega, by omega, ?_⟩
        walk_at "dx"
        refine in_txts ?_
        by_cases c2 : n = m
        · subst c2
          rw [decide_eq_false m4]
          walk_at "dx"
          refine ⟨namer_no (by decide +kernel), ?_⟩
          walk_at "dx"
          exact ⟨r, wd, tkS wd t, n, rfl, h6, by omega, by omega, q⟩
        · rw [decide_eq_true (m5 n n2 (by omega))]
          walk_at "dx"
          exact ⟨k - 1, by omega, rfl, n + 1, by omega, by omega, rfl⟩
      · rw [if_neg c] at q
        rw [decide_eq_false c]
        walk_at "dx"
        exact q
structure Shl where
  th : List (Str × Str)
  past : List (List (Str × Str))
  mo : D
  busy : Bool
def shlFs (C : Addr) (r : Ru) (wd : Nat) (s : Shl) : List (Str × D) :=
  [("namer", namerD C r wd), ("there", thD s.th), ("texts", .tup (s.th.map fun p => .str p.1)), ("names", .ftp (s.th.map fun p => .str p.2)), ("past", .tup (s.past.map thD)), ("moment", s.mo), ("busy", .bl s.busy)]
def shlNs : List Str := ["namer", "there", "texts", "names", "past", "moment", "busy"]
theorem shlNs_nd : shlNs.Nodup := by decide +kernel
theorem fs_namer (T : Tx K mg) {a : Addr} {Cn : Addr} {r : Ru} {wd : Nat} {s : Shl} {M : Mem} {R : QD} (ha : M a = some (.ins T.C_Shelf (shlFs Cn r wd s))) (q : R (namerD Cn r wd) M) : rFld1 K (Str.ofString "namer") (.ptr a) M R := V.x_fldQ 0 ha rfl rfl T.c_Shelf T.na_Shelf_namer (show shlNs.Nodup from shlNs_nd) q
theorem fs_there (T : Tx K mg) {a : Addr} {Cn : Addr} {r : Ru} {wd : Nat} {s : Shl} {M : Mem} {R : QD} (ha : M a = some (.ins T.C_Shelf (shlFs Cn r wd s))) (q : R (thD s.th) M) : rFld1 K (Str.ofString "there") (.ptr a) M R := V.x_fldQ 1 ha rfl rfl T.c_Shelf T.na_Shelf_there (show shlNs.Nodup from shlNs_nd) q
theorem fs_texts (T : Tx K mg) {a : Addr} {Cn : Addr} {r : Ru} {wd : Nat} {s : Shl} {M : Mem} {R : QD} (ha : M a = some (.ins T.C_Shelf (shlFs Cn r wd s))) (q : R (.tup (s.th.map fun p => .str p.1)) M) : rFld1 K (Str.ofString "texts") (.ptr a) M R := V.x_fldQ 2 ha rfl rfl T.c_Shelf T.na_Shelf_texts (show shlNs.Nodup from shlNs_nd) q
theorem fs_names (T : Tx K mg) {a : Addr} {Cn : Addr} {r : Ru} {wd : Nat} {s : Shl} {M : Mem} {R : QD} (ha : M a = some (.ins T.C_Shelf (shlFs Cn r wd s))) (q : R (.ftp (s.th.map fun p => .str p.2)) M) : rFld1 K (Str.ofString "names") (.ptr a) M R := V.x_fldQ 3 ha rfl rfl T.c_Shelf T.na_Shelf_names (show shlNs.Nodup from shlNs_nd) q
theorem fs_past (T : Tx K mg) {a : Addr} {Cn : Addr} {r : Ru} {wd : Nat} {s : Shl} {M : Mem} {R : QD} (ha : M a = some (.ins T.C_Shelf (shlFs Cn r wd s))) (q : R (.tup (s.past.map thD)) M) : rFld1 K (Str.ofString "past") (.ptr a) M R := V.x_fldQ 4 ha rfl rfl T.c_Shelf T.na_Shelf_past (show shlNs.Nodup from shlNs_nd) q
theorem fs_busy (T : Tx K mg) {a : Addr} {Cn : Addr} {r : Ru} {wd : Nat} {s : Shl} {M : Mem} {R : QD} (ha : M a = some (.ins T.C_Shelf (shlFs Cn r wd s))) (q : R (.bl s.busy) M) : rFld1 K (Str.ofString "busy") (.ptr a) M R := V.x_fldQ 6 ha rfl rfl T.c_Shelf T.na_Shelf_busy (show shlNs.Nodup from shlNs_nd) q
theorem shelf_no {C Cn a : Addr} {r : Ru} {wd : Nat} {s : Shl} {M : Mem} {m : Str} (ha : M a = some (.ins C (shlFs Cn r wd s))) (h : m ∉ shlNs) : ∃ ns xs, isIn M (.ptr a) C ns xs ∧ m ∉ ns := ⟨_, _, .inr ⟨a, _, rfl, ha, rfl, rfl⟩, h⟩
theorem shl_new {C : Addr} {r : Ru} {wd : Nat} : putD (Str.ofString "busy") (D.bl false) (putD (Str.ofString "moment") D.non (putD (Str.ofString "past") (D.tup []) (putD (Str.ofString "names") (D.ftp []) (putD (Str.ofString "texts") (D.tup []) (putD (Str.ofString "there") (D.tup []) (putD (Str.ofString "namer") (namerD C r wd) [])))))) = shlFs C r wd ⟨[], [], .non, false⟩ := by rfl
theorem shl_set {C : Addr} {r : Ru} {wd : Nat} {s : Shl} {l : List (Str × Str)} : putD (Str.ofString "names") (.ftp (l.map fun p => .str p.2)) (putD (Str.ofString "texts") (.tup (l.map fun p => .str p.1)) (putD (Str.ofString "there") (thD l) (shlFs C r wd s))) = shlFs C r wd { s with th := l } := by rfl
def spShlI (C Cn : Addr) : DC := fun ds M R => ∃ (x : Addr) (r : Ru) (wd : Nat), ds = [.ptr x, namerD Cn r wd] ∧ M x = some (.ins C []) ∧ R .non (mset M x (.ins C (shlFs Cn r wd ⟨[], [], .non, false⟩)))
theorem okD_Shelf___init__ (T : Tx K mg) : FnOk P w K mg base L2.CX0 lv_Shelf___init__ T.f_Shelf___init__ T.d_Shelf___init__ p_Shelf___init__ (lift (spShlI T.C_Shelf T.C_Namer)) := by
  refine fnD T.F_Shelf___init__ sc_Shelf___init__ (fun ds M R h => ?_) (fun cdv A outer s H E hr => ?_)
  · first | (obtain ⟨rfl, _⟩ := h; rfl) | (obtain ⟨_, rfl, _⟩ := h; rfl) | (obtain ⟨_, _, rfl, _⟩ := h; rfl) | (obtain ⟨_, _, _, rfl, _⟩ := h; rfl) | (obtain ⟨_, _, _, _, rfl, _⟩ := h; rfl) | (obtain ⟨_, _, _, _, _, rfl, _⟩ := h; rfl) | (obtain ⟨_, _, _, _, _, _, rfl, _⟩ := h; rfl) | (obtain ⟨_, _, _, _, _, _, _, rfl, _⟩ := h; rfl) | (obtain ⟨_, _, _, _, _, _, _, _, rfl, _⟩ := h; rfl)
  · have hr64 := hr.units
    have hc_Namer := T.c_Namer
    have hi_Namer := T.i_Namer
    have hn_Namer_rule := T.na_Namer_rule
    have hn_Namer_width := T.na_Namer_width
    have hc_Shelf := T.c_Shelf
    have hi_Shelf := T.i_Shelf
    have hn_Shelf_namer := T.na_Shelf_namer
    have hn_Shelf_there := T.na_Shelf_there
    have hn_Shelf_texts := T.na_Shelf_texts
    have hn_Shelf_names := T.na_Shelf_names
    have hn_Shelf_past := T.na_Shelf_past
    have hn_Shelf_moment := T.na_Shelf_moment
    have hn_Shelf_busy := T.na_Shelf_busy
    refine ⟨_, (pss_cons (ps_expr (pe_call (okD_check_namer T) (hr.mono (by decide)) rfl T.m_check_namer T.F_check_namer.kp T.b_check_namer .nil pass0 (pa_cons (pv 1) pa_nil)))
        (pss_cons (ps_fld (pv 0) (pv 1) rfl)
        (pss_cons (ps_fld (pv 0) (pe_tup pa_nil) rfl)
        (pss_cons (ps_fld (pv 0) (pe_tup pa_nil) rfl)
        (pss_cons (ps_fld (pv 0) (pe_tupF pa_nil) rfl)
        (pss_cons (ps_fld (pv 0) (pe_tup pa_nil) rfl)
        (pss_cons (ps_fld (pv 0) pe_non rfl)
        (pss_one (ps_fld (pv 0) pe_bl rfl))))))))), ?_⟩
    refine ⟨_, inferInstance, fun ds M R h => ?_⟩
    obtain ⟨x, r, wd, rfl, hx, q⟩ := h
    rw [st_Shelf___init__]
    walk_at "dx"
    refine ⟨r, wd, rfl, ?_⟩
    walk_at "dx"
    rw [shl_new]
    exact q
def spSettle (C Cn : Addr) : DC := fun ds M R => ∃ (a : Addr) (r : Ru) (wd : Nat) (s : Shl) (l : List (Str × Str)), ds = [.ptr a, thD l] ∧ l.length ≤ 100 ∧ M a = some (.ins C (shlFs Cn r wd s)) ∧ R .non (mset M a (.ins C (shlFs Cn r wd { s with th := l })))
theorem okD_Shelf_settle (T : Tx K mg) : FnOk P w K mg base L2.CX0 lv_Shelf_settle T.f_Shelf_settle T.d_Shelf_settle p_Shelf_settle (lift (spSettle T.C_Shelf T.C_Namer)) := by
  refine fnD T.F_Shelf_settle sc_Shelf_settle (fun ds M R h => ?_) (fun cdv A outer s H E hr => ?_)
  · first | (obtain ⟨rfl, _⟩ := h; rfl) | (obtain ⟨_, rfl, _⟩ := h; rfl) | (obtain ⟨_, _, rfl, _⟩ := h; rfl) | (obtain ⟨_, _, _, rfl, _⟩ := h; rfl) | (obtain ⟨_, _, _, _, rfl, _⟩ := h; rfl) | (obtain ⟨_, _, _, _, _, rfl, _⟩ := h; rfl) | (obtain ⟨_, _, _, _, _, _, rfl, _⟩ := h; rfl) | (obtain ⟨_, _, _, _, _, _, _, rfl, _⟩ := h; rfl) | (obtain ⟨_, _, _, _, _, _, _, _, rfl, _⟩ := h; rfl)
  · have hr64 := hr.units
    have hc_Namer := T.c_Namer
    have hi_Namer := T.i_Namer
    have hn_Namer_rule := T.na_Namer_rule
    have hn_Namer_width := T.na_Namer_width
    have hc_Shelf := T.c_Shelf
    have hi_Shelf := T.i_Shelf
    have hn_Shelf_namer := T.na_Shelf_namer
    have hn_Shelf_there := T.na_Shelf_there
    have hn_Shelf_texts := T.na_Shelf_texts
    have hn_Shelf_names := T.na_Shelf_names
    have hn_Shelf_past := T.na_Shelf_past
    have hn_Shelf_moment := T.na_Shelf_moment
    have hn_Shelf_busy := T.na_Shelf_busy
    refine ⟨_, (pss_cons (ps_fld (pv 0) (pv 1) rfl)
        (pss_cons (ps_fld (pv 0) (pe_tupOfK (K := K) rfl rfl T.n_tuple (pe_lc (own := [("text", 2), ("name", 3)]) rfl sc_Shelf_settle.nd (pi_tupK (K := K) rfl (pv 1)) (blkOk_by (N := ["self", "there", "text", "name"]) (sc := L2.defScope s_Shelf_settle) (by decide +kernel)) (fun _ _ _ _ _ => (pg_tupK (K := K) (n := 2) rfl rfl (pgs_cons (pg_name (i := 2) sc_Shelf_settle.nd rfl (by first | exact Or.inl rfl | exact Or.inr rfl)) (pgs_cons (pg_name (i := 3) sc_Shelf_settle.nd rfl (by first | exact Or.inl rfl | exact Or.inr rfl)) pgs_nil)))) (fun _ _ _ _ _ => pts_nil) (fun _ _ _ _ _ => (pv 2)))) rfl)
        (pss_one (ps_fld (pv 0) (pe_tupOfF (K := K) rfl rfl T.n_tuple (pe_lc (own := [("text", 2), ("name", 3)]) rfl sc_Shelf_settle.nd (pi_tupK (K := K) rfl (pv 1)) (blkOk_by (N := ["self", "there", "text", "name"]) (sc := L2.defScope s_Shelf_settle) (by decide +kernel)) (fun _ _ _ _ _ => (pg_tupK (K := K) (n := 2) rfl rfl (pgs_cons (pg_name (i := 2) sc_Shelf_settle.nd rfl (by first | exact Or.inl rfl | exact Or.inr rfl)) (pgs_cons (pg_name (i := 3) sc_Shelf_settle.nd rfl (by first | exact Or.inl rfl | exact Or.inr rfl)) pgs_nil)))) (fun _ _ _ _ _ => pts_nil) (fun _ _ _ _ _ => (pv 3)))) rfl)))), ?_⟩
    refine ⟨_, inferInstance, fun ds M R h => ?_⟩
    obtain ⟨a, r, wd, s, l, rfl, hl, ha, q⟩ := h
    rw [st_Shelf_settle]
    walk_at "dx"
    refine ⟨_, rfl, trivial, by rw [List.length_map]; omega, ?_⟩
    refine gather_all (f := fun d => match d with | .tup [x, _] => x | d => d) ?_ trivial ?_
    · intro x hx Ky hy
      obtain ⟨⟨y, z⟩, hp, rfl⟩ := List.mem_map.mp hx
      unfold pD
      walk_at "dx"
      exact hy
    walk_at "dx"
    refine ⟨_, rfl, trivial, by rw [List.length_map]; omega, ?_⟩
    refine gather_all (f := fun d => match d with | .tup [_, y] => y | d => d) ?_ trivial ?_
    · intro x hx Ky hy
      obtain ⟨⟨y, z⟩, hp, rfl⟩ := List.mem_map.mp hx
      unfold pD
      walk_at "dx"
      exact hy
    walk_at "dx"
    have e1 : (l.map pD).map (fun d => match d with | D.tup [x, _] => x | d => d) = l.map fun p => .str p.1 := by rw [List.map_map]; rfl
    have e2 : (l.map pD).map (fun d => match d with | D.tup [_, y] => y | d => d) = l.map fun p => .str p.2 := by rw [List.map_map]; rfl
    rw [e1, e2, shl_set]
    exact q
theorem shl_past {C : Addr} {r : Ru} {wd : Nat} {s : Shl} {l : List (List (Str × Str))} : putD (Str.ofString "past") (.tup (l.map thD)) (shlFs C r wd s) = shlFs C r wd { s with past := l } := by rfl
def spChange (C Cn : Addr) : DC := fun ds M R => ∃ (a : Addr) (r : Ru) (wd : Nat) (s : Shl) (l : List (Str × Str)), ds = [.ptr a, thD l] ∧ l.length ≤ 100 ∧ s.past.length ≤ 1000000 ∧ M a = some (.ins C (shlFs Cn r wd s)) ∧ R .non (mset M a (.ins C (shlFs Cn r wd { s with th := l, past := s.past ++ [s.th] })))
theorem okD_Shelf_change (T : Tx K mg) : FnOk P w K mg base L2.CX0 lv_Shelf_change T.f_Shelf_change T.d_Shelf_change p_Shelf_change (lift (spChange T.C_Shelf T.C_Namer)) := by
  refine fnD T.F_Shelf_change sc_Shelf_change (fun ds M R h => ?_) (fun cdv A outer s H E hr => ?_)
  · first | (obtain ⟨rfl, _⟩ := h; rfl) | (obtain ⟨_, rfl, _⟩ := h; rfl) | (obtain ⟨_, _, rfl, _⟩ := h; rfl) | (obtain ⟨_, _, _, rfl, _⟩ := h; rfl) | (obtain ⟨_, _, _, _, rfl, _⟩ := h; rfl) | (obtain ⟨_, _, _, _, _, rfl, _⟩ := h; rfl) | (obtain ⟨_, _, _, _, _, _, rfl, _⟩ := h; rfl) | (obtain ⟨_, _, _, _, _, _, _, rfl, _⟩ := h; rfl) | (obtain ⟨_, _, _, _, _, _, _, _, rfl, _⟩ := h; rfl)
  · have hr64 := hr.units
    have hc_Namer := T.c_Namer
    have hi_Namer := T.i_Namer
    have hn_Namer_rule := T.na_Namer_rule
    have hn_Namer_width := T.na_Namer_width
    have hc_Shelf := T.c_Shelf
    have hi_Shelf := T.i_Shelf
    have hn_Shelf_namer := T.na_Shelf_namer
    have hn_Shelf_there := T.na_Shelf_there
    have hn_Shelf_texts := T.na_Shelf_texts
    have hn_Shelf_names := T.na_Shelf_names
    have hn_Shelf_past := T.na_Shelf_past
    have hn_Shelf_moment := T.na_Shelf_moment
    have hn_Shelf_busy := T.na_Shelf_busy
    refine ⟨_, (pss_cons (ps_fld (pv 0) (pe_tup (pa_starK (K := K) rfl (pe_fldK (K := K) rfl (pv 0)) (pa_cons (pe_fldK (K := K) rfl (pv 0)) pa_nil))) rfl)
        (pss_one (ps_expr (pe_meth (pv 0) T.c_Shelf T.t_Shelf_settle (okD_Shelf_settle T) (hr.mono (by decide)) T.b_Shelf_settle .nil pass0 (pa_cons (pv 1) pa_nil))))), ?_⟩
    refine ⟨_, inferInstance, fun ds M R h => ?_⟩
    obtain ⟨a, r, wd, s, l, rfl, hl, hp, ha, q⟩ := h
    rw [st_Shelf_change]
    walk_at "dx"
    refine fs_past T ha ?_
    refine ⟨_, .inl rfl, ?_⟩
    walk_at "dx"
    refine fs_there T ha ?_
    walk_at "dx"
    refine ⟨by rw [List.length_append, List.length_map, sizeLine_eq]; simp; omega, ?_⟩
    walk_at "dx"
    rw [show s.past.map thD ++ [thD s.th] = (s.past ++ [s.th]).map thD by rw [List.map_append]; rfl, shl_past]
    refine ⟨shelf_no mset_same (by decide +kernel), ?_⟩
    walk_at "dx"
    refine ⟨a, r, wd, _, l, rfl, hl, mset_same, ?_⟩
    rw [mset_set]
    exact q
def spIdle (C Cn : Addr) : DC := fun ds M R => ∃ (a : Addr) (r : Ru) (wd : Nat) (s : Shl), ds = [.ptr a] ∧ s.busy = false ∧ M a = some (.ins C (shlFs Cn r wd s)) ∧ R .non M
theorem okD_Shelf_check_idle (T : Tx K mg) : FnOk P w K mg base L2.CX0 lv_Shelf_check_idle T.f_Shelf_check_idle T.d_Shelf_check_idle p_Shelf_check_idle (lift (spIdle T.C_Shelf T.C_Namer)) := by
  refine fnD T.F_Shelf_check_idle sc_Shelf_check_idle (fun ds M R h => ?_) (fun cdv A outer s H E hr => ?_)
  · first | (obtain ⟨rfl, _⟩ := h; rfl) | (obtain ⟨_, rfl, _⟩ := h; rfl) | (obtain ⟨_, _, rfl, _⟩ := h; rfl) | (obtain ⟨_, _, _, rfl, _⟩ := h; rfl) | (obtain ⟨_, _, _, _, rfl, _⟩ := h; rfl) | (obtain ⟨_, _, _, _, _, rfl, _⟩ := h; rfl) | (obtain ⟨_, _, _, _, _, _, rfl, _⟩ := h; rfl) | (obtain ⟨_, _, _, _, _, _, _, rfl, _⟩ := h; rfl) | (obtain ⟨_, _, _, _, _, _, _, _, rfl, _⟩ := h; rfl)
  · have hr64 := hr.units
    have hc_Namer := T.c_Namer
    have hi_Namer := T.i_Namer
    have hn_Namer_rule := T.na_Namer_rule
    have hn_Namer_width := T.na_Namer_width
    have hc_Shelf := T.c_Shelf
    have hi_Shelf := T.i_Shelf
    have hn_Shelf_namer := T.na_Shelf_namer
    have hn_Shelf_there := T.na_Shelf_there
    have hn_Shelf_texts := T.na_Shelf_texts
    have hn_Shelf_names := T.na_Shelf_names
    have hn_Shelf_past := T.na_Shelf_past
    have hn_Shelf_moment := T.na_Shelf_moment
    have hn_Shelf_busy := T.na_Shelf_busy
    refine ⟨_, (pss_one (ps_if (pt_val (pe_fldK (K := K) rfl (pv 0))) (pss_one ps_never) pss_nil)), ?_⟩
    refine ⟨_, inferInstance, fun ds M R h => ?_⟩
    obtain ⟨a, r, wd, s, rfl, hb, ha, q⟩ := h
    rw [st_Shelf_check_idle]
    walk_at "dx"
    refine fs_busy T ha ?_
    rw [hb]
    walk_at "dx"
    exact q
def comeS (r : Ru) (wd : Nat) (s : Shl) (t : Str) : Shl := { s with th := s.th ++ [(t, nameG r wd t s.th)], past := s.past ++ [s.th] }
def okS (s : Shl) : Prop := s.th.length ≤ 20 ∧ okTh s.th ∧ s.past.length ≤ 1000000
theorem idx_first {l : List Str} {z : Str} : ∀ {m : Nat}, l[m]? = some z → l.idxOf z ≤ m := by
  induction l with
  | nil => intro m h; cases h
  | cons a l ih =>
    intro m h
    rw [List.idxOf_cons]
    cases m with
    | zero =>
      cases h
      simp
    | succ m =>
      have := ih (m := m) h
      cases c : (a == z) with
      | true => simp
      | false => simp; omega
def goneS (s : Shl) (z : Str) : Shl := { s with th := s.th.eraseIdx ((s.th.map (·.2)).idxOf z), past := s.past ++ [s.th] }
def goneT (s : Shl) (z : Str) : Str := ((s.th.map (·.1))[(s.th.map (·.2)).idxOf z]?).getD Str.empty
theorem th_names (l : List (Str × Str)) : (l.map fun p => D.str p.2) = (l.map (·.2)).map D.str := by rw [List.map_map]; rfl
theorem th_texts (l : List (Str × Str)) : (l.map fun p => D.str p.1) = (l.map (·.1)).map D.str := by rw [List.map_map]; rfl
theorem nin_txtsF {l : List Str} {z : Str} {M : Mem} {R : QD} (q : R (.bl (!decide (z ∈ l))) M) : rNin1 (.str z) (.ftp (l.map D.str)) M R := ⟨_, .inr (.inl rfl), rfl, by simp [flatD], by rw [any_txt]; exact q⟩
def undoS (s : Shl) : Shl := { s with th := (s.past.getLast?).getD [], past := s.past.dropLast }
def spUndo (C Cn : Addr) : DC := fun ds M R => ∃ (a : Addr) (r : Ru) (wd : Nat) (s : Shl), ds = [.ptr a] ∧ s.past ≠ [] ∧ (∀ l ∈ s.past, l.length ≤ 20) ∧ s.past.length ≤ 1000000 ∧ s.busy = false ∧ M a = some (.ins C (shlFs Cn r wd s)) ∧ R .non (mset M a (.ins C (shlFs Cn r wd (undoS s))))
theorem okD_Shelf_undo (T : Tx K mg) : FnOk P w K mg base L2.CX0 lv_Shelf_undo T.f_Shelf_undo T.d_Shelf_undo p_Shelf_undo (lift (spUndo T.C_Shelf T.C_Namer)) := by
  refine fnD T.F_Shelf_undo sc_Shelf_undo (fun ds M R h => ?_) (fun cdv A outer s H E hr => ?_)
  · first | (obtain ⟨rfl, _⟩ := h; rfl) | (obtain ⟨_, rfl, _⟩ := h; rfl) | (obtain ⟨_, _, rfl, _⟩ := h; rfl) | (obtain ⟨_, _, _, rfl, _⟩ := h; rfl) | (obtain ⟨_, _, _, _, rfl, _⟩ := h; rfl) | (obtain ⟨_, _, _, _, _, rfl, _⟩ := h; rfl) | (obtain ⟨_, _, _, _, _, _, rfl, _⟩ := h; rfl) | (obtain ⟨_, _, _, _, _, _, _, rfl, _⟩ := h; rfl) | (obtain ⟨_, _, _, _, _, _, _, _, rfl, _⟩ := h; rfl)
  · have hr64 := hr.units
    have hc_Namer := T.c_Namer
    have hi_Namer := T.i_Namer
    have hn_Namer_rule := T.na_Namer_rule
    have hn_Namer_width := T.na_Namer_width
    have hc_Shelf := T.c_Shelf
    have hi_Shelf := T.i_Shelf
    have hn_Shelf_namer := T.na_Shelf_namer
    have hn_Shelf_there := T.na_Shelf_there
    have hn_Shelf_texts := T.na_Shelf_texts
    have hn_Shelf_names := T.na_Shelf_names
    have hn_Shelf_past := T.na_Shelf_past
    have hn_Shelf_moment := T.na_Shelf_moment
    have hn_Shelf_busy := T.na_Shelf_busy
    refine ⟨_, (pss_cons (ps_expr (pe_meth0 (pv 0) T.c_Shelf T.t_Shelf_check_idle (okD_Shelf_check_idle T) (hr.mono (by decide)) T.b_Shelf_check_idle .nil pass0))
        (pss_cons (ps_if (pt_cmpR (op_eqA (K := K) rfl hr64) (pe_callB (call_lenK (K := K) rfl) (by rfl) T.n_len (by decide +kernel) (pa_cons (pe_fldK (K := K) rfl (pv 0)) pa_nil)) pe_int (nomark _)) (pss_one ps_never) pss_nil)
        (pss_cons (ps_expr (pe_meth (pv 0) T.c_Shelf T.t_Shelf_settle (okD_Shelf_settle T) (hr.mono (by decide)) T.b_Shelf_settle .nil pass0 (pa_cons (pe_ix (ix_K (K := K) rfl) (pe_fldK (K := K) rfl (pv 0)) (pe_un un_neg pe_int) (fun _ _ => rfl)) pa_nil)))
        (pss_one (ps_fld (pv 0) (pe_slice (sl_Z (K := K) rfl) (pe_fldK (K := K) rfl (pv 0)) po_none (po_some (pe_un un_neg pe_int))) rfl))))), ?_⟩
    refine ⟨_, inferInstance, fun ds M R h => ?_⟩
    obtain ⟨a, r, wd, s, rfl, hp, hl, hp2, hb, ha, q⟩ := h
    rw [st_Shelf_undo]
    walk_at "dx"
    refine ⟨shelf_no ha (by decide +kernel), ?_⟩
    walk_at "dx"
    refine ⟨a, r, wd, s, rfl, hb, ha, ?_⟩
    walk_at "dx"
    refine fs_past T ha ?_
    walk_at "dx"
    rw [List.length_map, decide_eq_false (by have := List.length_pos_iff.mpr hp; omega)]
    walk_at "dx"
    refine ⟨shelf_no ha (by decide +kernel), ?_⟩
    walk_at "dx"
    refine fs_past T ha ?_
    walk_at "dx"
    obtain ⟨pl, l, hs⟩ : ∃ pl l, s.past = pl ++ [l] := ⟨_, _, (List.dropLast_concat_getLast hp).symm⟩
    have hll : l.length ≤ 20 := hl l (by rw [hs]; simp)
    have hu : undoS s = ⟨l, pl, s.mo, s.busy⟩ := by unfold undoS; rw [hs]; simp
    refine ⟨_, thD l, .inr (.inl rfl), by rw [hs, List.map_append]; exact atI_lastX _ _, ?_⟩
    walk_at "dx"
    refine ⟨a, r, wd, s, l, rfl, by omega, ha, ?_⟩
    walk_at "dx"
    refine fs_past T mset_same ?_
    walk_at "dx"
    rw [show (List.map thD s.past) = pl.map thD ++ [thD l] by rw [hs, List.map_append]; rfl, cutG_init]
    walk_at "dx"
    rw [shl_past]
    rw [hu] at q
    exact q
end
end G
namespace G
open PySem PySem.Spec PyProof.Rows L2 U V
section
variable {P : Program} {w : World} {K : PySem.W.Frag} {mg : Str → Option Value} {base : Heap}
theorem okE_UnknownName___init__ (T : Tx K mg) : FnOk P w K mg base L2.CX0 lv_UnknownName___init__ T.f_UnknownName___init__ T.d_UnknownName___init__ p_UnknownName___init__ (spExI T.C_UnknownName "value") := by
  refine T.F_UnknownName___init__.ok sc_UnknownName___init__ (fun vs H Q E h => ?_) (fun cdv A outer s H vs Q E hr h => ?_)
  · obtain ⟨a, y, rfl, _⟩ := h
    rfl
  · obtain ⟨a, y, rfl, ha, q⟩ := h
    refine ⟨_, pss_one (ps_ostG (p := ⟨0, 0, 0, 0⟩) (pv 0) (pv 1)), ?_⟩
    exact ⟨y, rfl, .ref a, rfl, a, T.C_UnknownName, _, _, _, _, rfl, T.o_UnknownName, T.na_UnknownName_value, ha, fun dx nd ne => q dx nd ne⟩
theorem okE_TooMany___init__ (T : Tx K mg) : FnOk P w K mg base L2.CX0 lv_TooMany___init__ T.f_TooMany___init__ T.d_TooMany___init__ p_TooMany___init__ (spExI T.C_TooMany "limit") := by
  refine T.F_TooMany___init__.ok sc_TooMany___init__ (fun vs H Q E h => ?_) (fun cdv A outer s H vs Q E hr h => ?_)
  · obtain ⟨a, y, rfl, _⟩ := h
    rfl
  · obtain ⟨a, y, rfl, ha, q⟩ := h
    refine ⟨_, pss_one (ps_ostG (p := ⟨0, 0, 0, 0⟩) (pv 0) (pv 1)), ?_⟩
    exact ⟨y, rfl, .ref a, rfl, a, T.C_TooMany, _, _, _, _, rfl, T.o_TooMany, T.na_TooMany_limit, ha, fun dx nd ne => q dx nd ne⟩
def spIdleX (C Cn CB : Addr) : DCX := fun ds M R q => ∃ (a : Addr) (r : Ru) (wd : Nat) (s : Shl), ds = [.ptr a] ∧ M a = some (.ins C (shlFs Cn r wd s)) ∧ (s.busy = false → R .non M) ∧ (s.busy = true → q CB [] M)
theorem okX_Shelf_check_idle (T : Tx K mg) : FnOk P w K mg base (L2.CX P w) lv_Shelf_check_idle T.f_Shelf_check_idle T.d_Shelf_check_idle p_Shelf_check_idle (liftX (spIdleX T.C_Shelf T.C_Namer T.C_Busy)) := by
  refine fnX T.F_Shelf_check_idle sc_Shelf_check_idle (fun ds M R q h => ?_) (fun cdv A outer s H E hr tk hpo => ?_)
  · first | (obtain ⟨rfl, _⟩ := h; rfl) | (obtain ⟨_, rfl, _⟩ := h; rfl) | (obtain ⟨_, _, rfl, _⟩ := h; rfl) | (obtain ⟨_, _, _, rfl, _⟩ := h; rfl) | (obtain ⟨_, _, _, _, rfl, _⟩ := h; rfl) | (obtain ⟨_, _, _, _, _, rfl, _⟩ := h; rfl) | (obtain ⟨_, _, _, _, _, _, rfl, _⟩ := h; rfl) | (obtain ⟨_, _, _, _, _, _, _, rfl, _⟩ := h; rfl) | (obtain ⟨_, _, _, _, _, _, _, _, rfl, _⟩ := h; rfl)
  · have hr64 := hr.units
    have hc_Namer := T.c_Namer
    have hi_Namer := T.i_Namer
    have hn_Namer_rule := T.na_Namer_rule
    have hn_Namer_width := T.na_Namer_width
    have hc_Shelf := T.c_Shelf
    have hi_Shelf := T.i_Shelf
    have hn_Shelf_namer := T.na_Shelf_namer
    have hn_Shelf_there := T.na_Shelf_there
    have hn_Shelf_texts := T.na_Shelf_texts
    have hn_Shelf_names := T.na_Shelf_names
    have hn_Shelf_past := T.na_Shelf_past
    have hn_Shelf_moment := T.na_Shelf_moment
    have hn_Shelf_busy := T.na_Shelf_busy
    refine ⟨_, (pss_one (ps_if (pt_val (pe_fldK (K := K) rfl (pv 0))) (pss_one (ps_raise0 PySem.F.excBase_LookupError T.q_Busy T.m_Busy T.kq_Busy T.bq_Busy T.tq_Busy rfl rfl tk)) pss_nil)), ?_⟩
    refine ⟨_, inferInstance, fun ds M R q h => ?_⟩
    obtain ⟨a, r, wd, s, rfl, ha, q1, q2⟩ := h
    rw [st_Shelf_check_idle]
    walk_at "dx"
    refine fs_busy T ha ?_
    cases e : s.busy with
    | false =>
      walk_at "dx"
      exact q1 e
    | true =>
      walk_at "dx"
      exact q2 e
/-- a text comes, or is refused -/
def ComeX (K : PySem.W.Frag) (CT CM C Cn : Addr) (a : Addr) (r : Ru) (wd : Nat) (s : Shl) (d : D) (M : Mem) (R : QD) (q : QX) : Prop :=
  (∃ t, d = .str t ∧ okText 200 t = true ∧ s.th.length < 20 ∧ R (.str (nameG r wd t s.th)) (mset M a (.ins C (shlFs Cn r wd (comeS r wd s t))))) ∨
  (BadT K M 200 d ∧ q CT [(Str.ofString "value", d)] M) ∨
  (∃ t, d = .str t ∧ okText 200 t = true ∧ 20 ≤ s.th.length ∧ q CM [(Str.ofString "limit", .int 20)] M)
def spLetComeX (K : PySem.W.Frag) (CT CM C Cn : Addr) : DCX := fun ds M R q => ∃ (a : Addr) (r : Ru) (wd : Nat) (s : Shl) (d : D), ds = [.ptr a, d] ∧ 6 ≤ wd ∧ wd ≤ 40 ∧ okS s ∧ M a = some (.ins C (shlFs Cn r wd s)) ∧ ComeX K CT CM C Cn a r wd s d M R q
theorem okX_Shelf_let_come (T : Tx K mg) : FnOk P w K mg base (L2.CX P w) lv_Shelf_let_come T.f_Shelf_let_come T.d_Shelf_let_come p_Shelf_let_come (liftX (spLetComeX K T.C_InvalidText T.C_TooMany T.C_Shelf T.C_Namer)) := by
  refine fnX T.F_Shelf_let_come sc_Shelf_let_come (fun ds M R q h => ?_) (fun cdv A outer s H E hr tk hpo => ?_)
  · first | (obtain ⟨rfl, _⟩ := h; rfl) | (obtain ⟨_, rfl, _⟩ := h; rfl) | (obtain ⟨_, _, rfl, _⟩ := h; rfl) | (obtain ⟨_, _, _, rfl, _⟩ := h; rfl) | (obtain ⟨_, _, _, _, rfl, _⟩ := h; rfl) | (obtain ⟨_, _, _, _, _, rfl, _⟩ := h; rfl) | (obtain ⟨_, _, _, _, _, _, rfl, _⟩ := h; rfl) | (obtain ⟨_, _, _, _, _, _, _, rfl, _⟩ := h; rfl) | (obtain ⟨_, _, _, _, _, _, _, _, rfl, _⟩ := h; rfl)
  · have hr64 := hr.units
    have hc_Namer := T.c_Namer
    have hi_Namer := T.i_Namer
    have hn_Namer_rule := T.na_Namer_rule
    have hn_Namer_width := T.na_Namer_width
    have hc_Shelf := T.c_Shelf
    have hi_Shelf := T.i_Shelf
    have hn_Shelf_namer := T.na_Shelf_namer
    have hn_Shelf_there := T.na_Shelf_there
    have hn_Shelf_texts := T.na_Shelf_texts
    have hn_Shelf_names := T.na_Shelf_names
    have hn_Shelf_past := T.na_Shelf_past
    have hn_Shelf_moment := T.na_Shelf_moment
    have hn_Shelf_busy := T.na_Shelf_busy
    refine ⟨_, (pss_cons (ps_expr (pe_call (okX_check_text T) (hr.mono (by decide)) rfl T.m_check_text T.F_check_text.kp T.b_check_text .nil (passX tk) (pa_cons (pv 1) pa_nil)))
        (pss_cons (ps_if (pt_cmpR op_ge (pe_callB (call_lenK (K := K) rfl) (by rfl) T.n_len (by decide +kernel) (pa_cons (pe_fldK (K := K) rfl (pv 0)) pa_nil)) (C8.pe_gc rfl T.k_MOST_SHELVED) (nomark _)) (pss_one (ps_raiseG T.o_TooMany T.i_TooMany T.j_TooMany (okE_TooMany___init__ T) (hr.mono (by decide)) T.b_TooMany___init__ rfl T.m_TooMany rfl tk (C8.pe_gc rfl T.k_MOST_SHELVED))) pss_nil)
        (pss_cons (ps_set (i := 2) sc_Shelf_let_come.nd rfl (by first | exact Or.inl rfl | exact Or.inr rfl) (pe_meth (pe_fldK (K := K) rfl (pv 0)) T.c_Namer T.t_Namer_name_for (okD_name_forT T) (hr.mono (by decide)) T.b_Namer_name_for .nil pass0 (pa_cons (pv 1) (pa_cons (pe_fldK (K := K) rfl (pv 0)) pa_nil))))
        (pss_cons (ps_expr (pe_meth (pv 0) T.c_Shelf T.t_Shelf_change (okD_Shelf_change T) (hr.mono (by decide)) T.b_Shelf_change .nil pass0 (pa_cons (pe_tup (pa_starK (K := K) rfl (pe_fldK (K := K) rfl (pv 0)) (pa_cons (pe_tup (pa_cons (pv 1) (pa_cons (pv 2) pa_nil))) pa_nil))) pa_nil)))
        (pss_one (ps_ret (pv 2))))))), ?_⟩
    refine ⟨_, inferInstance, fun ds M R q h => ?_⟩
    obtain ⟨a, r, wd, s, d, rfl, h6, h40, ⟨o1, o2, o3⟩, ha, h⟩ := h
    rw [st_Shelf_let_come]
    walk_at "dx"
    rcases h with ⟨t, rfl, ot, h20, q⟩ | ⟨hb, q⟩ | ⟨t, rfl, ot, h20, q⟩
    · refine ⟨_, rfl, .inl ⟨⟨t, rfl, ot⟩, ?_⟩⟩
      walk_at "dx"
      refine fs_there T ha ?_
      unfold thD
      walk_at "dx"
      refine fs_namer T ha ?_
      refine ⟨namer_no (by decide +kernel), ?_⟩
      walk_at "dx"
      refine fs_there T ha ?_
      walk_at "dx"
      refine ⟨r, wd, t, s.th, rfl, h6, h40, ot, by omega, o2, ?_⟩
      walk_at "dx"
      refine ⟨shelf_no ha (by decide +kernel), ?_⟩
      walk_at "dx"
      refine fs_there T ha ?_
      refine ⟨_, .inl rfl, ?_⟩
      walk_at "dx"
      refine ⟨by rw [List.length_append, List.length_map, sizeLine_eq]; simp; omega, ?_⟩
      rw [show s.th.map pD ++ [D.tup [.str t, .str (nameG r wd t s.th)]] = (s.th ++ [(t, nameG r wd t s.th)]).map pD by rw [List.map_append]; rfl]
      refine ⟨a, r, wd, s, _, rfl, by rw [List.length_append]; simp; omega, o3, ha, ?_⟩
      walk_at "dx"
      exact q
    · refine ⟨_, rfl, .inr ⟨hb, ?_⟩⟩
      walk_at "dx"
      exact q
    · refine ⟨_, rfl, .inl ⟨⟨t, rfl, ot⟩, ?_⟩⟩
      walk_at "dx"
      refine fs_there T ha ?_
      unfold thD
      walk_at "dx"
      exact q
/-- a value that is no name there -/
def BadNm (K : PySem.W.Frag) (M : Mem) (l : List Str) (d : D) : Prop := (∃ z, d = .str z ∧ z ∉ l) ∨ ∃ t : String, TyD K M d (.type t) ∧ t ∈ tyNames ∧ t ≠ "str"
/-- a name goes, or is refused -/
def GoneX (K : PySem.W.Frag) (CU C Cn : Addr) (a : Addr) (r : Ru) (wd : Nat) (s : Shl) (d : D) (M : Mem) (R : QD) (q : QX) : Prop :=
  (∃ z, d = .str z ∧ z ∈ s.th.map (·.2) ∧ R (.str (goneT s z)) (mset M a (.ins C (shlFs Cn r wd (goneS s z))))) ∨
  (BadNm K M (s.th.map (·.2)) d ∧ q CU [(Str.ofString "value", d)] M)
def spLetGoX (K : PySem.W.Frag) (CU C Cn : Addr) : DCX := fun ds M R q => ∃ (a : Addr) (r : Ru) (wd : Nat) (s : Shl) (d : D), ds = [.ptr a, d] ∧ okS s ∧ M a = some (.ins C (shlFs Cn r wd s)) ∧ GoneX K CU C Cn a r wd s d M R q
theorem okX_Shelf_let_go (T : Tx K mg) : FnOk P w K mg base (L2.CX P w) lv_Shelf_let_go T.f_Shelf_let_go T.d_Shelf_let_go p_Shelf_let_go (liftX (spLetGoX K T.C_UnknownName T.C_Shelf T.C_Namer)) := by
  refine fnX T.F_Shelf_let_go sc_Shelf_let_go (fun ds M R q h => ?_) (fun cdv A outer s H E hr tk hpo => ?_)
  · first | (obtain ⟨rfl, _⟩ := h; rfl) | (obtain ⟨_, rfl, _⟩ := h; rfl) | (obtain ⟨_, _, rfl, _⟩ := h; rfl) | (obtain ⟨_, _, _, rfl, _⟩ := h; rfl) | (obtain ⟨_, _, _, _, rfl, _⟩ := h; rfl) | (obtain ⟨_, _, _, _, _, rfl, _⟩ := h; rfl) | (obtain ⟨_, _, _, _, _, _, rfl, _⟩ := h; rfl) | (obtain ⟨_, _, _, _, _, _, _, rfl, _⟩ := h; rfl) | (obtain ⟨_, _, _, _, _, _, _, _, rfl, _⟩ := h; rfl)
  · have hr64 := hr.units
    have hc_Namer := T.c_Namer
    have hi_Namer := T.i_Namer
    have hn_Namer_rule := T.na_Namer_rule
    have hn_Namer_width := T.na_Namer_width
    have hc_Shelf := T.c_Shelf
    have hi_Shelf := T.i_Shelf
    have hn_Shelf_namer := T.na_Shelf_namer
    have hn_Shelf_there := T.na_Shelf_there
    have hn_Shelf_texts := T.na_Shelf_texts
    have hn_Shelf_names := T.na_Shelf_names
    have hn_Shelf_past := T.na_Shelf_past
    have hn_Shelf_moment := T.na_Shelf_moment
    have hn_Shelf_busy := T.na_Shelf_busy
    refine ⟨_, (pss_cons (ps_if (PW.pt (pw_or (pt_not (pt_val (pe_callB (call_isiK (K := K) rfl) (by rfl) T.n_isinstance (by decide +kernel) (pa_cons (pv 1) (pa_cons (pe_bt "str" rfl T.n_str (by decide +kernel)) pa_nil))))) (pw_or1 (pt_cmpR (op_ninK (K := K) rfl) (pv 1) (pe_fldK (K := K) rfl (pv 0)) (by rfl))))) (pss_one (ps_raiseG T.o_UnknownName T.i_UnknownName T.j_UnknownName (okE_UnknownName___init__ T) (hr.mono (by decide)) T.b_UnknownName___init__ rfl T.m_UnknownName rfl tk (pv 1))) pss_nil)
        (pss_cons (ps_set (i := 2) sc_Shelf_let_go.nd rfl (by first | exact Or.inl rfl | exact Or.inr rfl) (pe_tidx (K := K) rfl (pe_fldK (K := K) rfl (pv 0)) (pa_cons (pv 1) pa_nil)))
        (pss_cons (ps_set (i := 3) sc_Shelf_let_go.nd rfl (by first | exact Or.inl rfl | exact Or.inr rfl) (pe_ix (ix_K (K := K) rfl) (pe_fldK (K := K) rfl (pv 0)) (pv 2) (fun _ _ => rfl)))
        (pss_cons (ps_expr (pe_meth (pv 0) T.c_Shelf T.t_Shelf_change (okD_Shelf_change T) (hr.mono (by decide)) T.b_Shelf_change .nil pass0 (pa_cons (pe_tup (pa_starK (K := K) rfl (pe_slice (sl_Z (K := K) rfl) (pe_fldK (K := K) rfl (pv 0)) po_none (po_some (pv 2))) (pa_starK (K := K) rfl (pe_slice (sl_Z (K := K) rfl) (pe_fldK (K := K) rfl (pv 0)) (po_some (pe_op op_addU (pv 2) pe_int)) po_none) pa_nil))) pa_nil)))
        (pss_one (ps_ret (pv 3))))))), ?_⟩
    refine ⟨_, inferInstance, fun ds M R q h => ?_⟩
    obtain ⟨a, r, wd, s, d, rfl, ⟨o1, o2, o3⟩, ha, h⟩ := h
    rw [st_Shelf_let_go]
    walk_at "dx"
    rcases h with ⟨z, rfl, hz, q⟩ | ⟨⟨z, rfl, hz⟩ | ⟨t, ty, ht, hs⟩, q⟩
    · refine ⟨_, true, .str _, kit_ty (by decide +kernel), ?_⟩
      walk_at "dx"
      refine fs_names T ha ?_
      rw [th_names]
      refine nin_txtsF ?_
      rw [decide_eq_true hz]
      walk_at "dx"
      refine x_tidx ?_
      walk_at "dx"
      refine fs_names T ha ?_
      rw [th_names]
      refine ⟨_, rfl, ?_⟩
      walk_at "dx"
      have hi : (s.th.map (·.2)).idxOf z < s.th.length := by
        have := List.idxOf_lt_length_of_mem hz
        rwa [List.length_map] at this
      generalize hj : (s.th.map (·.2)).idxOf z = j at hi
      have hjz : (s.th.map (·.2))[j]? = some z ∧ ∀ m, m < j → (s.th.map (·.2))[m]? ≠ some z := by
        subst hj
        refine ⟨?_, fun m hm e => ?_⟩
        · have hl := List.idxOf_lt_length_of_mem hz
          rw [List.getElem?_eq_getElem hl, List.getElem_idxOf hl]
        · have := idx_first e
          omega
      refine ⟨j, .inl ⟨s.th.map (·.2), z, rfl, rfl, hjz.1, hjz.2⟩, ?_⟩
      walk_at "dx"
      refine fs_texts T ha ?_
      walk_at "dx"
      obtain ⟨⟨tx, nz⟩, hp⟩ : ∃ p, s.th[j]? = some p := ⟨_, List.getElem?_eq_getElem hi⟩
      refine ⟨_, .str tx, .inr (.inl rfl), atI_nat (by rw [List.getElem?_map, hp]; rfl), ?_⟩
      walk_at "dx"
      refine ⟨shelf_no ha (by decide +kernel), ?_⟩
      walk_at "dx"
      refine fs_there T ha ?_
      unfold thD
      walk_at "dx"
      refine fs_there T ha ?_
      unfold thD
      walk_at "dx"
      rw [show ((j : Nat) : Int) + 1 = ((j + 1 : Nat) : Int) by omega, cutG_to, cutG_from, show (s.th.map pD).take j ++ ((s.th.map pD).drop (j + 1) ++ []) = (s.th.eraseIdx j).map pD by rw [List.append_nil, List.eraseIdx_eq_take_drop_succ, List.map_append, List.map_take, List.map_drop]]
      have le : (s.th.eraseIdx j).length ≤ 20 := by rw [List.length_eraseIdx]; split <;> omega
      refine ⟨by rw [List.length_map, sizeLine_eq]; omega, ?_⟩
      walk_at "dx"
      refine ⟨a, r, wd, s, _, rfl, by omega, o3, ha, ?_⟩
      walk_at "dx"
      have e1 : goneT s z = tx := by
        unfold goneT
        rw [hj, List.getElem?_map, hp]
        rfl
      rw [e1] at q
      unfold goneS at q
      rw [hj] at q
      exact q
    · refine ⟨_, true, .str _, kit_ty (by decide +kernel), ?_⟩
      walk_at "dx"
      refine fs_names T ha ?_
      rw [th_names]
      refine nin_txtsF ?_
      rw [decide_eq_false hz]
      walk_at "dx"
      exact q
    · refine ⟨_, false, ty, kit_ty (ty_ne ht (by decide) hs), ?_⟩
      walk_at "dx"
      exact q
def spAddX (K : PySem.W.Frag) (CB CT CM C Cn : Addr) : DCX := fun ds M R q => ∃ (a : Addr) (r : Ru) (wd : Nat) (s : Shl) (d : D), ds = [.ptr a, d] ∧ 6 ≤ wd ∧ wd ≤ 40 ∧ okS s ∧ M a = some (.ins C (shlFs Cn r wd s)) ∧ (s.busy = false → ComeX K CT CM C Cn a r wd s d M R q) ∧ (s.busy = true → q CB [] M)
theorem okX_Shelf_add (T : Tx K mg) : FnOk P w K mg base (L2.CX P w) lv_Shelf_add T.f_Shelf_add T.d_Shelf_add p_Shelf_add (liftX (spAddX K T.C_Busy T.C_InvalidText T.C_TooMany T.C_Shelf T.C_Namer)) := by
  refine fnX T.F_Shelf_add sc_Shelf_add (fun ds M R q h => ?_) (fun cdv A outer s H E hr tk hpo => ?_)
  · first | (obtain ⟨rfl, _⟩ := h; rfl) | (obtain ⟨_, rfl, _⟩ := h; rfl) | (obtain ⟨_, _, rfl, _⟩ := h; rfl) | (obtain ⟨_, _, _, rfl, _⟩ := h; rfl) | (obtain ⟨_, _, _, _, rfl, _⟩ := h; rfl) | (obtain ⟨_, _, _, _, _, rfl, _⟩ := h; rfl) | (obtain ⟨_, _, _, _, _, _, rfl, _⟩ := h; rfl) | (obtain ⟨_, _, _, _, _, _, _, rfl, _⟩ := h; rfl) | (obtain ⟨_, _, _, _, _, _, _, _, rfl, _⟩ := h; rfl)
  · have hr64 := hr.units
    have hc_Namer := T.c_Namer
    have hi_Namer := T.i_Namer
    have hn_Namer_rule := T.na_Namer_rule
    have hn_Namer_width := T.na_Namer_width
    have hc_Shelf := T.c_Shelf
    have hi_Shelf := T.i_Shelf
    have hn_Shelf_namer := T.na_Shelf_namer
    have hn_Shelf_there := T.na_Shelf_there
    have hn_Shelf_texts := T.na_Shelf_texts
    have hn_Shelf_names := T.na_Shelf_names
    have hn_Shelf_past := T.na_Shelf_past
    have hn_Shelf_moment := T.na_Shelf_moment
    have hn_Shelf_busy := T.na_Shelf_busy
    refine ⟨_, (pss_cons (ps_expr (pe_meth0 (pv 0) T.c_Shelf T.t_Shelf_check_idle (okX_Shelf_check_idle T) (hr.mono (by decide)) T.b_Shelf_check_idle .nil (passX tk)))
        (pss_one (ps_ret (pe_meth (pv 0) T.c_Shelf T.t_Shelf_let_come (okX_Shelf_let_come T) (hr.mono (by decide)) T.b_Shelf_let_come .nil (passX tk) (pa_cons (pv 1) pa_nil))))), ?_⟩
    refine ⟨_, inferInstance, fun ds M R q h => ?_⟩
    obtain ⟨a, r, wd, s, d, rfl, h6, h40, os, ha, q1, q2⟩ := h
    rw [st_Shelf_add]
    walk_at "dx"
    refine x_methX ?_
    walk_at "dx"
    refine ⟨shelf_no ha (by decide +kernel), ?_⟩
    walk_at "dx"
    refine ⟨a, r, wd, s, rfl, ha, fun e => ?_, q2⟩
    walk_at "dx"
    refine x_methX ?_
    walk_at "dx"
    refine ⟨shelf_no ha (by decide +kernel), ?_⟩
    walk_at "dx"
    exact ⟨a, r, wd, s, d, rfl, h6, h40, os, ha, q1 e⟩
def spRemoveX (K : PySem.W.Frag) (CB CU C Cn : Addr) : DCX := fun ds M R q => ∃ (a : Addr) (r : Ru) (wd : Nat) (s : Shl) (d : D), ds = [.ptr a, d] ∧ okS s ∧ M a = some (.ins C (shlFs Cn r wd s)) ∧ (s.busy = false → GoneX K CU C Cn a r wd s d M R q) ∧ (s.busy = true → q CB [] M)
theorem okX_Shelf_remove (T : Tx K mg) : FnOk P w K mg base (L2.CX P w) lv_Shelf_remove T.f_Shelf_remove T.d_Shelf_remove p_Shelf_remove (liftX (spRemoveX K T.C_Busy T.C_UnknownName T.C_Shelf T.C_Namer)) := by
  refine fnX T.F_Shelf_remove sc_Shelf_remove (fun ds M R q h => ?_) (fun cdv A outer s H E hr tk hpo => ?_)
  · first | (obtain ⟨rfl, _⟩ := h; rfl) | (obtain ⟨_, rfl, _⟩ := h; rfl) | (obtain ⟨_, _, rfl, _⟩ := h; rfl) | (obtain ⟨_, _, _, rfl, _⟩ := h; rfl) | (obtain ⟨_, _, _, _, rfl, _⟩ := h; rfl) | (obtain ⟨_, _, _, _, _, rfl, _⟩ := h; rfl) | (obtain ⟨_, _, _, _, _, _, rfl, _⟩ := h; rfl) | (obtain ⟨_, _, _, _, _, _, _, rfl, _⟩ := h; rfl) | (obtain ⟨_, _, _, _, _, _, _, _, rfl, _⟩ := h; rfl)
  · have hr64 := hr.units
    have hc_Namer := T.c_Namer
    have hi_Namer := T.i_Namer
    have hn_Namer_rule := T.na_Namer_rule
    have hn_Namer_width := T.na_Namer_width
    have hc_Shelf := T.c_Shelf
    have hi_Shelf := T.i_Shelf
    have hn_Shelf_namer := T.na_Shelf_namer
    have hn_Shelf_there := T.na_Shelf_there
    have hn_Shelf_texts := T.na_Shelf_texts
    have hn_Shelf_names := T.na_Shelf_names
    have hn_Shelf_past := T.na_Shelf_past
    have hn_Shelf_moment := T.na_Shelf_moment
    have hn_Shelf_busy := T.na_Shelf_busy
    refine ⟨_, (pss_cons (ps_expr (pe_meth0 (pv 0) T.c_Shelf T.t_Shelf_check_idle (okX_Shelf_check_idle T) (hr.mono (by decide)) T.b_Shelf_check_idle .nil (passX tk)))
        (pss_one (ps_ret (pe_meth (pv 0) T.c_Shelf T.t_Shelf_let_go (okX_Shelf_let_go T) (hr.mono (by decide)) T.b_Shelf_let_go .nil (passX tk) (pa_cons (pv 1) pa_nil))))), ?_⟩
    refine ⟨_, inferInstance, fun ds M R q h => ?_⟩
    obtain ⟨a, r, wd, s, d, rfl, os, ha, q1, q2⟩ := h
    rw [st_Shelf_remove]
    walk_at "dx"
    refine x_methX ?_
    walk_at "dx"
    refine ⟨shelf_no ha (by decide +kernel), ?_⟩
    walk_at "dx"
    refine ⟨a, r, wd, s, rfl, ha, fun e => ?_, q2⟩
    walk_at "dx"
    refine x_methX ?_
    walk_at "dx"
    refine ⟨shelf_no ha (by decide +kernel), ?_⟩
    walk_at "dx"
    exact ⟨a, r, wd, s, d, rfl, os, ha, q1 e⟩
def spUndoX (CB CN C Cn : Addr) : DCX := fun ds M R q => ∃ (a : Addr) (r : Ru) (wd : Nat) (s : Shl), ds = [.ptr a] ∧ (∀ l ∈ s.past, l.length ≤ 20) ∧ s.past.length ≤ 1000000 ∧ M a = some (.ins C (shlFs Cn r wd s)) ∧
  (s.busy = false → s.past ≠ [] → R .non (mset M a (.ins C (shlFs Cn r wd (undoS s))))) ∧ (s.busy = false → s.past = [] → q CN [] M) ∧ (s.busy = true → q CB [] M)
theorem okX_Shelf_undo (T : Tx K mg) : FnOk P w K mg base (L2.CX P w) lv_Shelf_undo T.f_Shelf_undo T.d_Shelf_undo p_Shelf_undo (liftX (spUndoX T.C_Busy T.C_NothingToUndo T.C_Shelf T.C_Namer)) := by
  refine fnX T.F_Shelf_undo sc_Shelf_undo (fun ds M R q h => ?_) (fun cdv A outer s H E hr tk hpo => ?_)
  · first | (obtain ⟨rfl, _⟩ := h; rfl) | (obtain ⟨_, rfl, _⟩ := h; rfl) | (obtain ⟨_, _, rfl, _⟩ := h; rfl) | (obtain ⟨_, _, _, rfl, _⟩ := h; rfl) | (obtain ⟨_, _, _, _, rfl, _⟩ := h; rfl) | (obtain ⟨_, _, _, _, _, rfl, _⟩ := h; rfl) | (obtain ⟨_, _, _, _, _, _, rfl, _⟩ := h; rfl) | (obtain ⟨_, _, _, _, _, _, _, rfl, _⟩ := h; rfl) | (obtain ⟨_, _, _, _, _, _, _, _, rfl, _⟩ := h; rfl)
  · have hr64 := hr.units
    have hc_Namer := T.c_Namer
    have hi_Namer := T.i_Namer
    have hn_Namer_rule := T.na_Namer_rule
    have hn_Namer_width := T.na_Namer_width
    have hc_Shelf := T.c_Shelf
    have hi_Shelf := T.i_Shelf
    have hn_Shelf_namer := T.na_Shelf_namer
    have hn_Shelf_there := T.na_Shelf_there
    have hn_Shelf_texts := T.na_Shelf_texts
    have hn_Shelf_names := T.na_Shelf_names
    have hn_Shelf_past := T.na_Shelf_past
    have hn_Shelf_moment := T.na_Shelf_moment
    have hn_Shelf_busy := T.na_Shelf_busy
    refine ⟨_, (pss_cons (ps_expr (pe_meth0 (pv 0) T.c_Shelf T.t_Shelf_check_idle (okX_Shelf_check_idle T) (hr.mono (by decide)) T.b_Shelf_check_idle .nil (passX tk)))
        (pss_cons (ps_if (pt_cmpR (op_eqA (K := K) rfl hr64) (pe_callB (call_lenK (K := K) rfl) (by rfl) T.n_len (by decide +kernel) (pa_cons (pe_fldK (K := K) rfl (pv 0)) pa_nil)) pe_int (nomark _)) (pss_one (ps_raise0 PySem.F.excBase_LookupError T.q_NothingToUndo T.m_NothingToUndo T.kq_NothingToUndo T.bq_NothingToUndo T.tq_NothingToUndo rfl rfl tk)) pss_nil)
        (pss_cons (ps_expr (pe_meth (pv 0) T.c_Shelf T.t_Shelf_settle (okD_Shelf_settle T) (hr.mono (by decide)) T.b_Shelf_settle .nil pass0 (pa_cons (pe_ix (ix_K (K := K) rfl) (pe_fldK (K := K) rfl (pv 0)) (pe_un un_neg pe_int) (fun _ _ => rfl)) pa_nil)))
        (pss_one (ps_fld (pv 0) (pe_slice (sl_Z (K := K) rfl) (pe_fldK (K := K) rfl (pv 0)) po_none (po_some (pe_un un_neg pe_int))) rfl))))), ?_⟩
    refine ⟨_, inferInstance, fun ds M R q h => ?_⟩
    obtain ⟨a, r, wd, s, rfl, hl, hp2, ha, q1, q2, q3⟩ := h
    rw [st_Shelf_undo]
    walk_at "dx"
    refine x_methX ?_
    walk_at "dx"
    refine ⟨shelf_no ha (by decide +kernel), ?_⟩
    walk_at "dx"
    refine ⟨a, r, wd, s, rfl, ha, fun hb => ?_, q3⟩
    walk_at "dx"
    refine fs_past T ha ?_
    walk_at "dx"
    by_cases hp : s.past = []
    · rw [List.length_map, decide_eq_true (by rw [hp]; rfl)]
      walk_at "dx"
      exact q2 hb hp
    · have q := q1 hb hp
      rw [List.length_map, decide_eq_false (by have := List.length_pos_iff.mpr hp; omega)]
      walk_at "dx"
      refine ⟨shelf_no ha (by decide +kernel), ?_⟩
      walk_at "dx"
      refine fs_past T ha ?_
      walk_at "dx"
      obtain ⟨pl, l, hs⟩ : ∃ pl l, s.past = pl ++ [l] := ⟨_, _, (List.dropLast_concat_getLast hp).symm⟩
      have hll : l.length ≤ 20 := hl l (by rw [hs]; simp)
      have hu : undoS s = ⟨l, pl, s.mo, s.busy⟩ := by unfold undoS; rw [hs]; simp
      refine ⟨_, thD l, .inr (.inl rfl), by rw [hs, List.map_append]; exact atI_lastX _ _, ?_⟩
      walk_at "dx"
      refine ⟨a, r, wd, s, l, rfl, by omega, ha, ?_⟩
      walk_at "dx"
      refine fs_past T mset_same ?_
      walk_at "dx"
      rw [show (List.map thD s.past) = pl.map thD ++ [thD l] by rw [hs, List.map_append]; rfl, cutG_init]
      walk_at "dx"
      rw [shl_past]
      rw [hu] at q
      exact q
end
end G
namespace G
open PySem PySem.Spec PyProof.Rows L2 U V
section
variable {P : Program} {w : World} {K : PySem.W.Frag} {mg : Str → Option Value} {base : Heap}
def spShlLen (C Cn : Addr) : DC := fun ds M R => ∃ (a : Addr) (r : Ru) (wd : Nat) (s : Shl), ds = [.ptr a] ∧ M a = some (.ins C (shlFs Cn r wd s)) ∧ R (.int (s.th.length : Nat)) M
theorem okD_Shelf___len__ (T : Tx K mg) : FnOk P w K mg base L2.CX0 lv_Shelf___len__ T.f_Shelf___len__ T.d_Shelf___len__ p_Shelf___len__ (lift (spShlLen T.C_Shelf T.C_Namer)) := by
  refine fnD T.F_Shelf___len__ sc_Shelf___len__ (fun ds M R h => ?_) (fun cdv A outer s H E hr => ?_)
  · first | (obtain ⟨rfl, _⟩ := h; rfl) | (obtain ⟨_, rfl, _⟩ := h; rfl) | (obtain ⟨_, _, rfl, _⟩ := h; rfl) | (obtain ⟨_, _, _, rfl, _⟩ := h; rfl) | (obtain ⟨_, _, _, _, rfl, _⟩ := h; rfl) | (obtain ⟨_, _, _, _, _, rfl, _⟩ := h; rfl) | (obtain ⟨_, _, _, _, _, _, rfl, _⟩ := h; rfl) | (obtain ⟨_, _, _, _, _, _, _, rfl, _⟩ := h; rfl) | (obtain ⟨_, _, _, _, _, _, _, _, rfl, _⟩ := h; rfl)
  · have hr64 := hr.units
    have hc_Namer := T.c_Namer
    have hi_Namer := T.i_Namer
    have hn_Namer_rule := T.na_Namer_rule
    have hn_Namer_width := T.na_Namer_width
    have hc_Shelf := T.c_Shelf
    have hi_Shelf := T.i_Shelf
    have hn_Shelf_namer := T.na_Shelf_namer
    have hn_Shelf_there := T.na_Shelf_there
    have hn_Shelf_texts := T.na_Shelf_texts
    have hn_Shelf_names := T.na_Shelf_names
    have hn_Shelf_past := T.na_Shelf_past
    have hn_Shelf_moment := T.na_Shelf_moment
    have hn_Shelf_busy := T.na_Shelf_busy
    refine ⟨_, (pss_one (ps_ret (pe_callB (call_lenK (K := K) rfl) (by rfl) T.n_len (by decide +kernel) (pa_cons (pe_fldK (K := K) rfl (pv 0)) pa_nil)))), ?_⟩
    refine ⟨_, inferInstance, fun ds M R h => ?_⟩
    obtain ⟨a, r, wd, s, rfl, ha, q⟩ := h
    rw [st_Shelf___len__]
    walk_at "dx"
    refine fs_there T ha ?_
    unfold thD
    walk_at "dx"
    rw [List.length_map]
    exact q
/-- what repr shows of a shelf -/
def showS8 (n : Nat) : Str := Str.ofString "Shelf(" ++ Str.ofString (toString (n : Int)) ++ Str.ofString " texts)"
def spShlRepr (C Cn : Addr) : DC := fun ds M R => ∃ (a : Addr) (r : Ru) (wd : Nat) (s : Shl), ds = [.ptr a] ∧ s.th.length ≤ 20 ∧ M a = some (.ins C (shlFs Cn r wd s)) ∧ R (.str (showS8 s.th.length)) M
theorem okD_Shelf___repr__ (T : Tx K mg) : FnOk P w K mg base L2.CX0 lv_Shelf___repr__ T.f_Shelf___repr__ T.d_Shelf___repr__ p_Shelf___repr__ (lift (spShlRepr T.C_Shelf T.C_Namer)) := by
  refine fnD T.F_Shelf___repr__ sc_Shelf___repr__ (fun ds M R h => ?_) (fun cdv A outer s H E hr => ?_)
  · first | (obtain ⟨rfl, _⟩ := h; rfl) | (obtain ⟨_, rfl, _⟩ := h; rfl) | (obtain ⟨_, _, rfl, _⟩ := h; rfl) | (obtain ⟨_, _, _, rfl, _⟩ := h; rfl) | (obtain ⟨_, _, _, _, rfl, _⟩ := h; rfl) | (obtain ⟨_, _, _, _, _, rfl, _⟩ := h; rfl) | (obtain ⟨_, _, _, _, _, _, rfl, _⟩ := h; rfl) | (obtain ⟨_, _, _, _, _, _, _, rfl, _⟩ := h; rfl) | (obtain ⟨_, _, _, _, _, _, _, _, rfl, _⟩ := h; rfl)
  · have hr64 := hr.units
    have hc_Namer := T.c_Namer
    have hi_Namer := T.i_Namer
    have hn_Namer_rule := T.na_Namer_rule
    have hn_Namer_width := T.na_Namer_width
    have hc_Shelf := T.c_Shelf
    have hi_Shelf := T.i_Shelf
    have hn_Shelf_namer := T.na_Shelf_namer
    have hn_Shelf_there := T.na_Shelf_there
    have hn_Shelf_texts := T.na_Shelf_texts
    have hn_Shelf_names := T.na_Shelf_names
    have hn_Shelf_past := T.na_Shelf_past
    have hn_Shelf_moment := T.na_Shelf_moment
    have hn_Shelf_busy := T.na_Shelf_busy
    refine ⟨_, (pss_one (ps_ret (pe_joinedD (.cons pe_str (.cons (pe_fmt (pe_callB (call_lenK (K := K) rfl) (by rfl) T.n_len (by decide +kernel) (pa_cons (pe_fldK (K := K) rfl (pv 0)) pa_nil))) (.cons pe_str .nil)))))), ?_⟩
    refine ⟨_, inferInstance, fun ds M R h => ?_⟩
    obtain ⟨a, r, wd, s, rfl, hl, ha, q⟩ := h
    rw [st_Shelf___repr__]
    walk_at "dx"
    have dl : (Str.ofString (toString ((s.th.length : Nat) : Int))).length ≤ 2 := (show ∀ n, n ≤ 20 → (Str.ofString (toString ((n : Nat) : Int))).length ≤ 2 by decide +kernel) _ hl
    have k1 : (Str.ofString "Shelf(").length = 6 := rfl
    have k2 : (Str.ofString " texts)").length = 7 := rfl
    have k0 : Str.empty.length = 0 := rfl
    refine x_js (x_c ⟨_, rfl, by decide +kernel, ?_⟩)
    refine x_js ?_
    show dCB _ _ _ _ _
    walk_at "dx"
    refine fs_there T ha ?_
    unfold thD
    walk_at "dx"
    rw [List.length_map]
    refine ⟨log_small (by omega), _, rfl, by rw [len_append, len_append, sizeLine_eq]; omega, x_js (x_c ⟨_, rfl, by rw [len_append, len_append, len_append, sizeLine_eq]; omega, x_js0 ?_⟩)⟩
    rw [empty_append]
    exact q
def spLawNumD : DC := fun ds M R => ∃ (r : Ru) (wd : Nat) (t : Str) (n : Nat), ds = [.str r.str, .int (wd : Nat), .str t, .int (n : Nat)] ∧ 6 ≤ wd ∧ wd ≤ 40 ∧ t.length ≤ 200 ∧ n < 100 ∧ R (.str (numG r wd (tkS wd t) n)) M
theorem okD__law_numbered (T : Tx K mg) : FnOk P w K mg base L2.CX0 lv__law_numbered T.f__law_numbered T.d__law_numbered p__law_numbered (lift (spLawNumD)) := by
  refine fnD T.F__law_numbered sc__law_numbered (fun ds M R h => ?_) (fun cdv A outer s H E hr => ?_)
  · first | (obtain ⟨rfl, _⟩ := h; rfl) | (obtain ⟨_, rfl, _⟩ := h; rfl) | (obtain ⟨_, _, rfl, _⟩ := h; rfl) | (obtain ⟨_, _, _, rfl, _⟩ := h; rfl) | (obtain ⟨_, _, _, _, rfl, _⟩ := h; rfl) | (obtain ⟨_, _, _, _, _, rfl, _⟩ := h; rfl) | (obtain ⟨_, _, _, _, _, _, rfl, _⟩ := h; rfl) | (obtain ⟨_, _, _, _, _, _, _, rfl, _⟩ := h; rfl) | (obtain ⟨_, _, _, _, _, _, _, _, rfl, _⟩ := h; rfl)
  · have hr64 := hr.units
    have hc_Namer := T.c_Namer
    have hi_Namer := T.i_Namer
    have hn_Namer_rule := T.na_Namer_rule
    have hn_Namer_width := T.na_Namer_width
    have hc_Shelf := T.c_Shelf
    have hi_Shelf := T.i_Shelf
    have hn_Shelf_namer := T.na_Shelf_namer
    have hn_Shelf_there := T.na_Shelf_there
    have hn_Shelf_texts := T.na_Shelf_texts
    have hn_Shelf_names := T.na_Shelf_names
    have hn_Shelf_past := T.na_Shelf_past
    have hn_Shelf_moment := T.na_Shelf_moment
    have hn_Shelf_busy := T.na_Shelf_busy
    refine ⟨_, (pss_cons (ps_set (i := 4) sc__law_numbered.nd rfl (by first | exact Or.inl rfl | exact Or.inr rfl) (pe_op op_addU pe_str (pe_callTy call_str1 (by rfl) T.n_str (by decide +kernel) (pa_cons (pv 3) pa_nil))))
        (pss_cons (ps_set (i := 5) sc__law_numbered.nd rfl (by first | exact Or.inl rfl | exact Or.inr rfl) (pe_slice (sl_Z (K := K) rfl) (pv 2) po_none (po_some (pv 1))))
        (pss_cons (ps_if (PW.pt (pw_and (pt_cmpR (op_eqA (K := K) rfl hr64) (pv 0) pe_str (nomark _)) (pw_and1 (pt_cmpR op_gt (pe_op op_addU (pe_callB (call_lenK (K := K) rfl) (by rfl) T.n_len (by decide +kernel) (pa_cons (pv 5) pa_nil)) (pe_callB (call_lenK (K := K) rfl) (by rfl) T.n_len (by decide +kernel) (pa_cons (pv 4) pa_nil))) (pv 1) (nomark _))))) (pss_one (ps_set (i := 5) sc__law_numbered.nd rfl (by first | exact Or.inl rfl | exact Or.inr rfl) (pe_slice (sl_Z (K := K) rfl) (pv 5) po_none (po_some (pe_op op_sub (pv 1) (pe_callB (call_lenK (K := K) rfl) (by rfl) T.n_len (by decide +kernel) (pa_cons (pv 4) pa_nil))))))) pss_nil)
        (pss_one (ps_ret (pe_op op_addU (pv 5) (pv 4))))))), ?_⟩
    refine ⟨_, inferInstance, fun ds M R h => ?_⟩
    obtain ⟨r, wd, t, n, rfl, h6, h40, ht, hn, q⟩ := h
    obtain ⟨_, _, _, h4, h5, _⟩ := til_rev n hn
    rw [st__law_numbered]
    have l2 : (tkS wd t).length ≤ 40 := by rw [tkS_len]; omega
    walk_at "dx"
    refine ⟨_, rfl, log_small (by omega), ?_⟩
    walk_at "dx"
    refine V.x_addS ⟨by have e := h5; unfold til at e; rw [len_append] at e; rw [sizeLine_eq]; omega, ?_⟩
    rw [show Str.ofString "~" ++ Str.ofString (toString ((n : Nat) : Int)) = til n from rfl]
    walk_at "dx"
    refine V.x_slS ⟨by rw [sizeLine_eq]; omega, ?_⟩
    rw [cutS_toN]
    walk_at "dx"
    unfold numG at q
    cases r with
    | count =>
      rw [decide_eq_false (show ¬ Ru.count.str = Str.ofString "tight" by decide +kernel), if_neg Bool.false_ne_true]
      walk_at "dx"
      exact V.x_addS ⟨by rw [sizeLine_eq]; omega, q⟩
    | free =>
      rw [decide_eq_false (show ¬ Ru.free.str = Str.ofString "tight" by decide +kernel), if_neg Bool.false_ne_true]
      walk_at "dx"
      exact V.x_addS ⟨by rw [sizeLine_eq]; omega, q⟩
    | tight =>
      rw [decide_eq_true (show Ru.tight.str = Str.ofString "tight" from rfl), if_pos rfl]
      walk_at "dx"
      refine V.x_lenS ⟨by rw [sizeLine_eq]; omega, ?_⟩
      walk_at "dx"
      refine V.x_lenS ⟨by rw [sizeLine_eq]; omega, ?_⟩
      walk_at "dx"
      by_cases c2 : wd < (tkS wd t).length + (til n).length
      · rw [decide_eq_true (by omega)]
        walk_at "dx"
        refine V.x_lenS ⟨by rw [sizeLine_eq]; omega, ?_⟩
        walk_at "dx"
        rw [show ((wd : Nat) : Int) - (((til n).length : Nat) : Int) = ((wd - (til n).length : Nat) : Int) by omega]
        refine V.x_slS ⟨by rw [sizeLine_eq]; omega, ?_⟩
        rw [cutS_toN]
        walk_at "dx"
        exact V.x_addS ⟨by rw [tkS_len, sizeLine_eq]; omega, q⟩
      · rw [decide_eq_false (by omega)]
        walk_at "dx"
        have e : tkS (wd - (til n).length) (tkS wd t) = tkS wd t := tkS_all (by omega)
        simp only [e] at q
        exact V.x_addS ⟨by rw [sizeLine_eq]; omega, q⟩
theorem eq_nilD {ds : List D} {M : Mem} {R : QD} (e : EqOk (.lst ds)) (q : R (.bl (decide (ds.length = 0))) M) : rEq1 (.lst ds) (.lst []) M R := by
  show EqOk (.lst ds) ∧ EqOk (.lst []) ∧ R (.bl (D.eqb (.lst ds) (.lst []))) M
  refine ⟨e, EqOk.of (okPs.nil 0 0).list (by decide), ?_⟩
  cases ds with
  | nil => exact q
  | cons d ds => exact q
theorem ne_nilD {ds : List D} {M : Mem} {R : QD} (e : EqOk (.lst ds)) (q : R (.bl (!decide (ds.length = 0))) M) : rNe1 (.lst ds) (.lst []) M R := by
  show EqOk (.lst ds) ∧ EqOk (.lst []) ∧ R (.bl (!D.eqb (.lst ds) (.lst []))) M
  refine ⟨e, EqOk.of (okPs.nil 0 0).list (by decide), ?_⟩
  cases ds with
  | nil => exact q
  | cons d ds => exact q
theorem eqok_prs {l : List (Str × Str)} (lo : okTh l) : EqOk (.lst (l.map pD)) := EqOk.of (okPs.list (okPs.all (W := 300) (k := 1) fun d hd => by
    obtain ⟨p, hp, rfl⟩ := List.mem_map.mp hd
    exact ((okPs.cons (okP.text (lo _ hp).1) (okPs.cons (okP.text (lo _ hp).2) (okPs.nil 0 0))).tuple).mono (by decide) (by decide))) (by decide)
def spLawNmG : DC := fun ds M R => ∃ (r : Ru) (wd : Nat) (t : Str) (l : List (Str × Str)), ds = [.str r.str, .int (wd : Nat), .str t, .lst (l.map pD)] ∧ 6 ≤ wd ∧ wd ≤ 40 ∧ okText 200 t = true ∧ l.length ≤ 40 ∧ okTh l ∧ R (.str (nameG r wd t l)) M
theorem okD__law_name (T : Tx K mg) : FnOk P w K mg base L2.CX0 lv__law_name T.f__law_name T.d__law_name p__law_name (lift (spLawNmG)) := by
  refine fnD T.F__law_name sc__law_name (fun ds M R h => ?_) (fun cdv A outer s H E hr => ?_)
  · first | (obtain ⟨rfl, _⟩ := h; rfl) | (obtain ⟨_, rfl, _⟩ := h; rfl) | (obtain ⟨_, _, rfl, _⟩ := h; rfl) | (obtain ⟨_, _, _, rfl, _⟩ := h; rfl) | (obtain ⟨_, _, _, _, rfl, _⟩ := h; rfl) | (obtain ⟨_, _, _, _, _, rfl, _⟩ := h; rfl) | (obtain ⟨_, _, _, _, _, _, rfl, _⟩ := h; rfl) | (obtain ⟨_, _, _, _, _, _, _, rfl, _⟩ := h; rfl) | (obtain ⟨_, _, _, _, _, _, _, _, rfl, _⟩ := h; rfl)
  · have hr64 := hr.units
    have hc_Namer := T.c_Namer
    have hi_Namer := T.i_Namer
    have hn_Namer_rule := T.na_Namer_rule
    have hn_Namer_width := T.na_Namer_width
    have hc_Shelf := T.c_Shelf
    have hi_Shelf := T.i_Shelf
    have hn_Shelf_namer := T.na_Shelf_namer
    have hn_Shelf_there := T.na_Shelf_there
    have hn_Shelf_texts := T.na_Shelf_texts
    have hn_Shelf_names := T.na_Shelf_names
    have hn_Shelf_past := T.na_Shelf_past
    have hn_Shelf_moment := T.na_Shelf_moment
    have hn_Shelf_busy := T.na_Shelf_busy
    refine ⟨_, (pss_cons (ps_set (i := 4) sc__law_name.nd rfl (by first | exact Or.inl rfl | exact Or.inr rfl) (pe_slice (sl_Z (K := K) rfl) (pv 2) po_none (po_some (pv 1))))
        (pss_cons (ps_if (pt_cmpR (op_eqA (K := K) rfl hr64) (pv 0) pe_str (nomark _)) (pss_cons (ps_setLc (i := 5) (own := [("_law_pair", 9)]) rfl sc__law_name.nd rfl rfl (sw_true rfl rfl rfl (by decide +kernel)) (pi_listK (K := K) rfl (pv 3)) (blkOk_by (N := ["_law_sort", "_law_size", "_law_text_here", "_law_there", "_law_base", "_law_mates", "_law_taken", "_law_number", "_law_found", "_law_pair"]) (sc := L2.defScope s__law_name) (by decide +kernel)) (fun _ _ _ _ _ => (pg_name (i := 9) sc__law_name.nd rfl (by first | exact Or.inl rfl | exact Or.inr rfl))) (fun _ _ _ _ _ => (pts_one (pt_cmpR (op_eqA (K := K) rfl hr64) (pe_slice (sl_Z (K := K) rfl) (pe_ix (ix_K (K := K) rfl) (pv 9) pe_int (fun _ _ => rfl)) po_none (po_some (pv 1))) (pv 4) (nomark _)))) (fun _ _ _ _ _ => (pv 9)))
        (pss_one (ps_ret (pe_ifExp (pt_cmpR (op_eqA (K := K) rfl hr64) (pv 5) (pe_lst pa_nil) (nomark _)) (pv 4) (pe_call (okD__law_numbered T) (hr.mono (by decide)) rfl T.m__law_numbered T.F__law_numbered.kp T.b__law_numbered .nil pass0 (pa_cons (pv 0) (pa_cons (pv 1) (pa_cons (pv 2) (pa_cons (pe_op op_addU (pe_callB (call_lenK (K := K) rfl) (by rfl) T.n_len (by decide +kernel) (pa_cons (pv 5) pa_nil)) pe_int) pa_nil))))))))) pss_nil)
        (pss_cons (ps_setLc (i := 6) (own := [("_law_pair", 9)]) rfl sc__law_name.nd rfl rfl (sw_true rfl rfl rfl (by decide +kernel)) (pi_listK (K := K) rfl (pv 3)) (blkOk_by (N := ["_law_sort", "_law_size", "_law_text_here", "_law_there", "_law_base", "_law_mates", "_law_taken", "_law_number", "_law_found", "_law_pair"]) (sc := L2.defScope s__law_name) (by decide +kernel)) (fun _ _ _ _ _ => (pg_name (i := 9) sc__law_name.nd rfl (by first | exact Or.inl rfl | exact Or.inr rfl))) (fun _ _ _ _ _ => pts_nil) (fun _ _ _ _ _ => (pe_ix (ix_K (K := K) rfl) (pv 9) pe_int (fun _ _ => rfl))))
        (pss_cons (ps_if (pt_cmpR (op_ninK (K := K) rfl) (pv 4) (pv 6) (by rfl)) (pss_one (ps_ret (pv 4))) pss_nil)
        (pss_cons (ps_for PassesOwn.never rfl (pi_range2 rfl T.n_range (pa_cons pe_int (pa_cons (pe_op op_addU (pe_callB (call_lenK (K := K) rfl) (by rfl) T.n_len (by decide +kernel) (pa_cons (pv 6) pa_nil)) pe_int) pa_nil))) (pg_name (i := 7) sc__law_name.nd rfl (by first | exact Or.inl rfl | exact Or.inr rfl)) (pss_cons (ps_set (i := 8) sc__law_name.nd rfl (by first | exact Or.inl rfl | exact Or.inr rfl) (pe_call (okD__law_numbered T) (hr.mono (by decide)) rfl T.m__law_numbered T.F__law_numbered.kp T.b__law_numbered .nil pass0 (pa_cons (pv 0) (pa_cons (pv 1) (pa_cons (pv 2) (pa_cons (pv 7) pa_nil))))))
        (pss_one (ps_if (pt_cmpR (op_ninK (K := K) rfl) (pv 8) (pv 6) (by rfl)) (pss_one (ps_ret (pv 8))) pss_nil))))
        (pss_one (ps_ret pe_non))))))), ?_⟩
    refine ⟨_, inferInstance, fun ds M R h => ?_⟩
    obtain ⟨r, wd, t, l, rfl, h6, h40, ot, hl, lo, q⟩ := h
    have ht := (okText_iff.mp ot).1
    have hb : (tkS wd t).length ≤ 200 := by rw [tkS_len]; omega
    rw [st__law_name]
    walk_at "dx"
    refine V.x_slS ⟨by rw [sizeLine_eq]; omega, ?_⟩
    rw [cutS_toN]
    walk_at "dx"
    by_cases hc : r = .count
    · subst hc
      rw [decide_eq_true (show Ru.count.str = Str.ofString "count" from rfl)]
      walk_at "dx"
      refine ⟨by rw [List.length_map]; omega, ?_⟩
      refine gather_map (f := id) (p := fun d => match d with | .tup (.str x :: _) => decide (tkS wd x = tkS wd t) | _ => false) ?_ trivial ?_
      · intro x hx Ky Kn hy hn
        obtain ⟨⟨y, z⟩, hp, rfl⟩ := List.mem_map.mp hx
        have oy := (okText_iff.mp (lo _ hp).1).1
        have oy : y.length ≤ 200 := oy
        unfold pD
        walk_at "dx"
        refine V.x_slS ⟨by rw [sizeLine_eq]; omega, ?_⟩
        rw [cutS_toN]
        walk_at "dx"
        refine x_ite _ (fun c => ?_) (fun c => ?_)
        · walk_at "dx"
          exact hy (decide_eq_true c)
        · exact hn (decide_eq_false c)
      walk_at "dx"
      have em : (List.map id (List.filter (fun d => match d with | D.tup (D.str x :: _) => decide (tkS wd x = tkS wd t) | _ => false) (List.map pD l))) = (l.filter fun p => decide (tkS wd p.1 = tkS wd t)).map pD := by
        rw [List.map_id, List.filter_map]
        rfl
      rw [em]
      have mle := mates_le wd t l
      unfold matesN at mle
      unfold nameG at q
      simp only at q
      unfold matesN at q
      refine eq_nilD (eqok_prs fun p hp => lo p (List.mem_filter.mp hp).1) ?_
      rw [List.length_map]
      by_cases c : (l.filter fun p => decide (tkS wd p.1 = tkS wd t)).length = 0
      · rw [decide_eq_true c]
        rw [if_pos c] at q
        walk_at "dx"
        exact q
      · rw [decide_eq_false c]
        rw [if_neg c] at q
        walk_at "dx"
        rw [List.length_map]
        exact ⟨.count, wd, t, (l.filter fun p => decide (tkS wd p.1 = tkS wd t)).length + 1, rfl, h6, h40, ht, by omega, q⟩
    · rw [decide_eq_false (show ¬ r.str = Str.ofString "count" by cases r <;> first | exact absurd rfl hc | decide +kernel)]
      walk_at "dx"
      refine ⟨by rw [List.length_map]; omega, ?_⟩
      refine gather_all (f := fun d => match d with | .tup [_, y] => y | d => d) ?_ trivial ?_
      · intro x hx Ky hy
        obtain ⟨⟨y, z⟩, hp, rfl⟩ := List.mem_map.mp hx
        unfold pD
        walk_at "dx"
        exact hy
      have em : (l.map pD).map (fun d => match d with | D.tup [_, y] => y | d => d) = (l.map (·.2)).map D.str := by rw [List.map_map, List.map_map]; rfl
      rw [em]
      have hq : nameG r wd t l = if tkS wd t ∈ l.map (·.2) then numG r wd (tkS wd t) (nextN (l.map (·.2)) (numG r wd (tkS wd t)) l.length 2) else tkS wd t := by
        cases r with
        | count => exact absurd rfl hc
        | free => rfl
        | tight => rfl
      rw [hq] at q
      clear hq em
      walk_at "dx"
      refine nin_txts ?_
      by_cases c : tkS wd t ∈ l.map (·.2)
      · rw [if_pos c] at q
        rw [decide_eq_true c]
        walk_at "dx"
        obtain ⟨m, m2, m3, m4, m5, m6⟩ := nextG (r := r) (w := wd) (b := tkS wd t) (tk := l.map (·.2)) (by rw [List.length_map]; omega)
        rw [List.length_map] at m3 m6
        rw [m6] at q
        refine ⟨⟨by decide, by decide, by omega, by rw [List.length_map, List.length_map]; omega⟩, trivial, ?_⟩
        refine loop_inv (fun i δ M' => M' = M ∧ i + 2 ≤ m ∧ ∃ u, δ = [some (.str r.str), some (.int (wd : Nat)), some (.str t), some (.lst (l.map pD)), some (.str (tkS wd t)), none, some (.lst ((l.map (·.2)).map D.str)), u.1, u.2, none]) ⟨rfl, m2, (none, none), rfl⟩ ?_ ?_
        · rintro i x δ M' Kc hx ⟨rfl, hi, u, rfl⟩ hk
          obtain ⟨hk2, hx2⟩ := List.getElem?_eq_some_iff.mp hx
          rw [rgD_get hk2] at hx
          cases hx
          rw [rgD_len, List.length_map, List.length_map] at hk2
          walk_at "dx"
          refine ⟨r, wd, t, 2 + i, rfl, h6, h40, ht, by omega, ?_⟩
          walk_at "dx"
          refine nin_txts ?_
          by_cases c2 : 2 + i = m
          · rw [c2, decide_eq_false m4]
            walk_at "dx"
            exact q
          · rw [decide_eq_true (m5 (2 + i) (by omega) (by omega))]
            walk_at "dx"
            exact (hk _ _ trivial ⟨rfl, by omega, (_, _), rfl⟩).2
        · rintro δ M' ⟨rfl, hi, u, rfl⟩
          rw [rgD_len] at hi
          simp at hi
          omega
      · rw [if_neg c] at q
        rw [decide_eq_false c]
        walk_at "dx"
        exact q
/-- what a text that comes leaves -/
def lAddD (r : Ru) (wd : Nat) (l : List (Str × Str)) (t : Str) : D := if 20 ≤ l.length then .tup [.str (Str.ofString "many"), .int 20] else .lst ((l ++ [(t, nameG r wd t l)]).map pD)
def spLawAddG : DC := fun ds M R => ∃ (r : Ru) (wd : Nat) (l : List (Str × Str)) (t : Str), ds = [.str r.str, .int (wd : Nat), .lst (l.map pD), .str t] ∧ 6 ≤ wd ∧ wd ≤ 40 ∧ okText 200 t = true ∧ l.length ≤ 40 ∧ okTh l ∧ R (lAddD r wd l t) M
theorem okD__law_added (T : Tx K mg) : FnOk P w K mg base L2.CX0 lv__law_added T.f__law_added T.d__law_added p__law_added (lift (spLawAddG)) := by
  refine fnD T.F__law_added sc__law_added (fun ds M R h => ?_) (fun cdv A outer s H E hr => ?_)
  · first | (obtain ⟨rfl, _⟩ := h; rfl) | (obtain ⟨_, rfl, _⟩ := h; rfl) | (obtain ⟨_, _, rfl, _⟩ := h; rfl) | (obtain ⟨_, _, _, rfl, _⟩ := h; rfl) | (obtain ⟨_, _, _, _, rfl, _⟩ := h; rfl) | (obtain ⟨_, _, _, _, _, rfl, _⟩ := h; rfl) | (obtain ⟨_, _, _, _, _, _, rfl, _⟩ := h; rfl) | (obtain ⟨_, _, _, _, _, _, _, rfl, _⟩ := h; rfl) | (obtain ⟨_, _, _, _, _, _, _, _, rfl, _⟩ := h; rfl)
  · have hr64 := hr.units
    have hc_Namer := T.c_Namer
    have hi_Namer := T.i_Namer
    have hn_Namer_rule := T.na_Namer_rule
    have hn_Namer_width := T.na_Namer_width
    have hc_Shelf := T.c_Shelf
    have hi_Shelf := T.i_Shelf
    have hn_Shelf_namer := T.na_Shelf_namer
    have hn_Shelf_there := T.na_Shelf_there
    have hn_Shelf_texts := T.na_Shelf_texts
    have hn_Shelf_names := T.na_Shelf_names
    have hn_Shelf_past := T.na_Shelf_past
    have hn_Shelf_moment := T.na_Shelf_moment
    have hn_Shelf_busy := T.na_Shelf_busy
    refine ⟨_, (pss_cons (ps_if (pt_cmpR op_ge (pe_callB (call_lenK (K := K) rfl) (by rfl) T.n_len (by decide +kernel) (pa_cons (pv 2) pa_nil)) pe_int (nomark _)) (pss_one (ps_ret (pe_tup (pa_cons pe_str (pa_cons pe_int pa_nil))))) pss_nil)
        (pss_one (ps_ret (pe_op op_addU (pv 2) (pe_lst (pa_cons (pe_tup (pa_cons (pv 3) (pa_cons (pe_call (okD__law_name T) (hr.mono (by decide)) rfl T.m__law_name T.F__law_name.kp T.b__law_name .nil pass0 (pa_cons (pv 0) (pa_cons (pv 1) (pa_cons (pv 3) (pa_cons (pv 2) pa_nil))))) pa_nil))) pa_nil)))))), ?_⟩
    refine ⟨_, inferInstance, fun ds M R h => ?_⟩
    obtain ⟨r, wd, l, t, rfl, h6, h40, ot, hl, lo, q⟩ := h
    rw [st__law_added]
    walk_at "dx"
    rw [List.length_map]
    unfold lAddD at q
    by_cases c : 20 ≤ l.length
    · rw [if_pos c] at q
      rw [decide_eq_true (by omega)]
      walk_at "dx"
      exact q
    · rw [if_neg c] at q
      rw [decide_eq_false (by omega)]
      walk_at "dx"
      refine ⟨r, wd, t, l, rfl, h6, h40, ot, hl, lo, ?_⟩
      walk_at "dx"
      refine V.x_addL ⟨by simp [sizeLine_eq]; omega, ?_⟩
      walk_at "dx"
      rw [List.map_append] at q
      exact q
theorem idxs_hd {l : List Str} {z : Str} (h : z ∈ l) : ∃ rest, (List.range l.length).filter (fun k => decide (l[k]? = some z)) = l.idxOf z :: rest := by
  induction l with
  | nil => cases h
  | cons a l ih =>
    rw [List.length_cons, List.range_succ_eq_map, List.filter_cons, List.filter_map]
    by_cases c : a = z
    · subst c
      exact ⟨_, by simp; rfl⟩
    · have h2 : z ∈ l := by
        rcases List.mem_cons.mp h with e | e
        · exact absurd e.symm c
        · exact e
      obtain ⟨rest, e⟩ := ih h2
      refine ⟨rest.map Nat.succ, ?_⟩
      simp only [List.getElem?_cons_zero, Option.some.injEq, c, decide_false, Bool.false_eq_true, if_false, Function.comp_def, List.getElem?_cons_succ, e, List.map_cons]
      rw [List.idxOf_cons, show (a == z) = false from beq_eq_false_iff_ne.mpr c]
      rfl
/-- a value that may be asked for as a name -/
def Askd (d : D) : Prop := (∃ z, d = .str z) ∨ d = .non ∨ (∃ i, d = .int i) ∨ (∃ xs, d = .lst xs ∧ EqOk d) ∨ (∃ xs, d = .tup xs ∧ EqOk d)
def strEq (z : Str) (d : D) : Bool := match d with | .str y => decide (z = y) | _ => false
theorem eq_so {z : Str} {d : D} {M : Mem} {R : QD} (o : Askd d) (h : okText 200 z = true) (q : R (.bl (strEq z d)) M) : rEq1 (.str z) d M R := by
  rcases o with ⟨y, rfl⟩ | rfl | ⟨i, rfl⟩ | ⟨xs, rfl, e⟩ | ⟨xs, rfl, e⟩
  · exact q
  · exact q
  · exact q
  · exact ⟨EqOk.of (okP.text h) (by decide), e, q⟩
  · exact ⟨EqOk.of (okP.text h) (by decide), e, q⟩
theorem eqok_ks {ks : List Nat} (h : ∀ k ∈ ks, k < 1000) : EqOk (.lst (ks.map fun k => D.int ((k : Nat) : Int))) := EqOk.of (okPs.list (okPs.all (W := 40) (k := 0) fun d hd => by
    obtain ⟨p, hp, rfl⟩ := List.mem_map.mp hd
    exact okP.int (by have := h p hp; omega))) (by decide)
def spLawRemG : DC := fun ds M R => ∃ (l : List (Str × Str)) (d : D), ds = [.lst (l.map pD), d] ∧ l.length ≤ 40 ∧ okTh l ∧ Askd d ∧
  ((∃ z, d = .str z ∧ z ∈ l.map (·.2) ∧ R (.lst ((l.eraseIdx ((l.map (·.2)).idxOf z)).map pD)) M) ∨ ((∀ z, d = .str z → z ∉ l.map (·.2)) ∧ R (.tup [.str (Str.ofString "unknown"), d]) M))
theorem okD__law_removed (T : Tx K mg) : FnOk P w K mg base L2.CX0 lv__law_removed T.f__law_removed T.d__law_removed p__law_removed (lift (spLawRemG)) := by
  refine fnD T.F__law_removed sc__law_removed (fun ds M R h => ?_) (fun cdv A outer s H E hr => ?_)
  · first | (obtain ⟨rfl, _⟩ := h; rfl) | (obtain ⟨_, rfl, _⟩ := h; rfl) | (obtain ⟨_, _, rfl, _⟩ := h; rfl) | (obtain ⟨_, _, _, rfl, _⟩ := h; rfl) | (obtain ⟨_, _, _, _, rfl, _⟩ := h; rfl) | (obtain ⟨_, _, _, _, _, rfl, _⟩ := h; rfl) | (obtain ⟨_, _, _, _, _, _, rfl, _⟩ := h; rfl) | (obtain ⟨_, _, _, _, _, _, _, rfl, _⟩ := h; rfl) | (obtain ⟨_, _, _, _, _, _, _, _, rfl, _⟩ := h; rfl)
  · have hr64 := hr.units
    have hc_Namer := T.c_Namer
    have hi_Namer := T.i_Namer
    have hn_Namer_rule := T.na_Namer_rule
    have hn_Namer_width := T.na_Namer_width
    have hc_Shelf := T.c_Shelf
    have hi_Shelf := T.i_Shelf
    have hn_Shelf_namer := T.na_Shelf_namer
    have hn_Shelf_there := T.na_Shelf_there
    have hn_Shelf_texts := T.na_Shelf_texts
    have hn_Shelf_names := T.na_Shelf_names
    have hn_Shelf_past := T.na_Shelf_past
    have hn_Shelf_moment := T.na_Shelf_moment
    have hn_Shelf_busy := T.na_Shelf_busy
    refine ⟨_, (pss_cons (ps_setLc (i := 2) (own := [("_law_k", 3)]) rfl sc__law_removed.nd rfl rfl (sw_true rfl rfl rfl (by decide +kernel)) (pi_range1 rfl T.n_range (pa_cons (pe_callB (call_lenK (K := K) rfl) (by rfl) T.n_len (by decide +kernel) (pa_cons (pv 0) pa_nil)) pa_nil)) (blkOk_by (N := ["_law_there", "_law_name_here", "_law_spots", "_law_k"]) (sc := L2.defScope s__law_removed) (by decide +kernel)) (fun _ _ _ _ _ => (pg_name (i := 3) sc__law_removed.nd rfl (by first | exact Or.inl rfl | exact Or.inr rfl))) (fun _ _ _ _ _ => (pts_one (pt_cmpR (op_eqA (K := K) rfl hr64) (pe_ix (ix_K (K := K) rfl) (pe_ix (ix_K (K := K) rfl) (pv 0) (pv 3) (fun _ _ => rfl)) pe_int (fun _ _ => rfl)) (pv 1) (nomark _)))) (fun _ _ _ _ _ => (pv 3)))
        (pss_cons (ps_if (pt_cmpR (op_eqA (K := K) rfl hr64) (pv 2) (pe_lst pa_nil) (nomark _)) (pss_one (ps_ret (pe_tup (pa_cons pe_str (pa_cons (pv 1) pa_nil))))) pss_nil)
        (pss_one (ps_ret (pe_op op_addU (pe_slice (sl_Z (K := K) rfl) (pv 0) po_none (po_some (pe_ix (ix_K (K := K) rfl) (pv 2) pe_int (fun _ _ => rfl)))) (pe_slice (sl_Z (K := K) rfl) (pv 0) (po_some (pe_op op_addU (pe_ix (ix_K (K := K) rfl) (pv 2) pe_int (fun _ _ => rfl)) pe_int)) po_none)))))), ?_⟩
    refine ⟨_, inferInstance, fun ds M R h => ?_⟩
    obtain ⟨l, d, rfl, hl, lo, ed, q⟩ := h
    rw [st__law_removed]
    walk_at "dx"
    refine ⟨by simp <;> omega, by simp <;> omega, trivial, by rw [rgD_len]; simp <;> omega, ?_⟩
    refine gather_map (f := id) (p := fun x => match x with | .int i => strEq (((l.map (·.2))[i.toNat]?).getD Str.empty) d | _ => false) ?_ trivial ?_
    · intro x hx Ky Kn hy hn
      obtain ⟨i, hi, rfl⟩ := List.mem_map.mp hx
      have hi2 := List.mem_range.mp hi
      rw [List.length_map] at hi2
      have hi3 : i < l.length := by omega
      obtain ⟨⟨y, z⟩, hp⟩ : ∃ p, l[i]? = some p := ⟨_, List.getElem?_eq_getElem hi3⟩
      rw [Int.zero_add] at hy hn
      have en : ((l.map (·.2))[((i : Nat) : Int).toNat]?).getD Str.empty = z := by rw [Int.toNat_natCast, List.getElem?_map, hp]; rfl
      rw [Int.zero_add]
      walk_at "dx"
      refine ⟨_, pD (y, z), .inl rfl, atI_nat (by rw [List.getElem?_map, hp]; rfl), ?_⟩
      unfold pD
      walk_at "dx"
      refine eq_so ed (ok_mono (lo _ (List.mem_of_getElem? hp)).2 (by decide)) ?_
      simp only [en] at hy hn
      walk_at "dx"
      by_cases c : strEq z d = true
      · rw [if_pos (show strEq (y, z).snd d = true from c)]
        walk_at "dx"
        exact hy c
      · rw [if_neg (show ¬ strEq (y, z).snd d = true from c)]
        exact hn (Bool.eq_false_iff.mpr c)
    have ef : List.map id (List.filter (fun x => match x with | .int i => strEq (((l.map (·.2))[i.toNat]?).getD Str.empty) d | _ => false) (rgD 0 ((l.map pD).length : Nat))) = ((List.range (l.map (·.2)).length).filter fun k => strEq (((l.map (·.2))[k]?).getD Str.empty) d).map fun k => D.int ((k : Nat) : Int) := by
      rw [List.map_id]
      unfold rgD
      rw [List.filter_map, List.length_map, List.length_map, show (((l.length : Nat) : Int) - 0).toNat = l.length by omega]
      simp only [Function.comp_def, Int.zero_add, Int.toNat_natCast]
    rw [ef]
    clear ef
    walk_at "dx"
    rcases q with ⟨z, rfl, hz, q⟩ | ⟨hz, q⟩
    · have e2 : ((List.range (l.map (·.2)).length).filter fun k => strEq (((l.map (·.2))[k]?).getD Str.empty) (.str z)) = (List.range (l.map (·.2)).length).filter (fun k => decide ((l.map (·.2))[k]? = some z)) := by
        refine List.filter_congr fun k hk => ?_
        rw [List.getElem?_eq_getElem (List.mem_range.mp hk)]
        simp [strEq]
      obtain ⟨rest, e3⟩ := idxs_hd hz
      rw [e2, e3]
      have hlt := List.idxOf_lt_length_of_mem hz
      rw [List.length_map] at hlt
      refine eq_nilD (eqok_ks fun k hk => ?_) ?_
      · rw [← e3] at hk
        have := List.mem_range.mp (List.mem_filter.mp hk).1
        rw [List.length_map] at this
        omega
      rw [decide_eq_false (by simp)]
      walk_at "dx"
      rw [List.map_cons]
      generalize hj : (l.map (·.2)).idxOf z = j at hlt q ⊢
      refine V.x_ixL (atI_nat (j := 0) rfl) ?_
      refine ⟨_, rfl, ?_⟩
      walk_at "dx"
      refine V.x_ixL (atI_nat (j := 0) rfl) ?_
      walk_at "dx"
      rw [show ((j : Nat) : Int) + 1 = ((j + 1 : Nat) : Int) by omega, cutG_to, cutG_from]
      have ee : (l.map pD).take j ++ (l.map pD).drop (j + 1) = (l.eraseIdx j).map pD := by rw [List.eraseIdx_eq_take_drop_succ, List.map_append, List.map_take, List.map_drop]
      have le : (l.eraseIdx j).length ≤ 40 := by rw [List.length_eraseIdx]; split <;> omega
      refine V.x_addL ⟨by rw [← List.length_append, ee, List.length_map, sizeLine_eq]; omega, ?_⟩
      rw [ee]
      exact q
    · have e2 : ((List.range (l.map (·.2)).length).filter fun k => strEq (((l.map (·.2))[k]?).getD Str.empty) d) = [] := by
        refine List.filter_eq_nil_iff.mpr fun k hk => ?_
        have hk := List.mem_range.mp hk
        rw [List.getElem?_eq_getElem hk]
        cases d with
        | str z =>
          intro e
          have e := of_decide_eq_true (show decide ((l.map (·.2))[k] = z) = true from e)
          exact hz z rfl (e ▸ List.getElem_mem hk)
        | _ => exact Bool.false_ne_true
      rw [e2]
      refine eq_nilD (eqok_ks (ks := []) fun k hk => by cases hk) ?_
      rw [decide_eq_true (by rfl)]
      walk_at "dx"
      exact q
theorem okT_cd {z : Str} {n : Nat} (h : okText n z = true) : (∀ c ∈ cd z, c < 0x110000) ∧ (cd z).length ≤ n :=
  ⟨fun c hc => (show ∀ c ∈ U.signs, c < 0x110000 by decide) c ((okText_iff.mp h).2 c hc), by rw [cd_len]; exact (okText_iff.mp h).1⟩
theorem show8_ok {n : Nat} (h : n ≤ 20) : (∀ c ∈ cd (showS8 n), c < 0x110000) ∧ (cd (showS8 n)).length ≤ 20 :=
  (show ∀ n, n ≤ 20 → (∀ c ∈ cd (showS8 n), c < 0x110000) ∧ (cd (showS8 n)).length ≤ 20 by decide +kernel) n h
/-- _law_is of two equal data -/
theorem reprR_two {K : PySem.W.Frag} {d : D} {W k : Nat} {M : Mem} {R : QD} (o : okQ W k d) (hm : M sysModules = some .sys) (hk : k ≤ 40) (hW : W ≤ 16000) (q : ∀ z, (∀ (R2 : QD), R2 (.str z) M → V.rReprR1 K [d] M R2) → R (.str z) M) : V.rReprR1 K [d] M R := by
  obtain ⟨p, o⟩ := o.r (K := K)
  exact reprR o hm (q _ fun R2 h => reprR o hm h hk hW) hk hW
def spIs : DC := fun ds M R => ∃ (d : D) (W k : Nat), ds = [d, d] ∧ okQ W k d ∧ k ≤ 40 ∧ W ≤ 16000 ∧ M sysModules = some .sys ∧ R (.bl true) M
theorem okD__law_is (T : Tx K mg) : FnG P w K mg base lv__law_is T.f__law_is T.d__law_is p__law_is (lift (spIs)) := by
  refine fnDG T.F__law_is sc__law_is (fun ds M R h => ?_) (fun cdv A outer s H E hr hgd => ?_)
  · first | (obtain ⟨rfl, _⟩ := h; rfl) | (obtain ⟨_, rfl, _⟩ := h; rfl) | (obtain ⟨_, _, rfl, _⟩ := h; rfl) | (obtain ⟨_, _, _, rfl, _⟩ := h; rfl) | (obtain ⟨_, _, _, _, rfl, _⟩ := h; rfl) | (obtain ⟨_, _, _, _, _, rfl, _⟩ := h; rfl) | (obtain ⟨_, _, _, _, _, _, rfl, _⟩ := h; rfl) | (obtain ⟨_, _, _, _, _, _, _, rfl, _⟩ := h; rfl) | (obtain ⟨_, _, _, _, _, _, _, _, rfl, _⟩ := h; rfl)
  · have hr64 := hr.units
    have hc_Namer := T.c_Namer
    have hi_Namer := T.i_Namer
    have hn_Namer_rule := T.na_Namer_rule
    have hn_Namer_width := T.na_Namer_width
    have hc_Shelf := T.c_Shelf
    have hi_Shelf := T.i_Shelf
    have hn_Shelf_namer := T.na_Shelf_namer
    have hn_Shelf_there := T.na_Shelf_there
    have hn_Shelf_texts := T.na_Shelf_texts
    have hn_Shelf_names := T.na_Shelf_names
    have hn_Shelf_past := T.na_Shelf_past
    have hn_Shelf_moment := T.na_Shelf_moment
    have hn_Shelf_busy := T.na_Shelf_busy
    refine ⟨_, (pss_one (ps_ret (pe_cmpR (op_eqA (K := K) rfl hr64) (pe_callB (call_reprQ (K := K) rfl hgd hr64) (by rfl) T.n_repr (by decide +kernel) (pa_cons (pv 0) pa_nil)) (pe_callB (call_reprQ (K := K) rfl hgd hr64) (by rfl) T.n_repr (by decide +kernel) (pa_cons (pv 1) pa_nil)) (nomark _)))), ?_⟩
    refine ⟨_, inferInstance, fun ds M R h => ?_⟩
    obtain ⟨d, W, k, rfl, o, hk, hW, hs, q⟩ := h
    rw [st__law_is]
    walk_at "dx"
    refine reprR_two o hs hk hW fun z hz => ?_
    walk_at "dx"
    refine hz _ ?_
    walk_at "dx"
    rw [decide_eq_true rfl]
    exact q
def spShelfIs (T : Tx K mg) : DC := fun ds M R => ∃ (a : Addr) (r : Ru) (wd : Nat) (s : Shl), ds = [.ptr a, .lst (s.th.map pD), .bl s.busy] ∧ okS s ∧ M a = some (.ins T.C_Shelf (shlFs T.C_Namer r wd s)) ∧ M sysModules = some .sys ∧ R (.bl true) M
theorem okD__law_shelf_is (T : Tx K mg) : FnG P w K mg base lv__law_shelf_is T.f__law_shelf_is T.d__law_shelf_is p__law_shelf_is (lift (spShelfIs T)) := by
  refine fnDG T.F__law_shelf_is sc__law_shelf_is (fun ds M R h => ?_) (fun cdv A outer s H E hr hgd => ?_)
  · first | (obtain ⟨rfl, _⟩ := h; rfl) | (obtain ⟨_, rfl, _⟩ := h; rfl) | (obtain ⟨_, _, rfl, _⟩ := h; rfl) | (obtain ⟨_, _, _, rfl, _⟩ := h; rfl) | (obtain ⟨_, _, _, _, rfl, _⟩ := h; rfl) | (obtain ⟨_, _, _, _, _, rfl, _⟩ := h; rfl) | (obtain ⟨_, _, _, _, _, _, rfl, _⟩ := h; rfl) | (obtain ⟨_, _, _, _, _, _, _, rfl, _⟩ := h; rfl) | (obtain ⟨_, _, _, _, _, _, _, _, rfl, _⟩ := h; rfl)
  · have hr64 := hr.units
    have hc_Namer := T.c_Namer
    have hi_Namer := T.i_Namer
    have hn_Namer_rule := T.na_Namer_rule
    have hn_Namer_width := T.na_Namer_width
    have hc_Shelf := T.c_Shelf
    have hi_Shelf := T.i_Shelf
    have hn_Shelf_namer := T.na_Shelf_namer
    have hn_Shelf_there := T.na_Shelf_there
    have hn_Shelf_texts := T.na_Shelf_texts
    have hn_Shelf_names := T.na_Shelf_names
    have hn_Shelf_past := T.na_Shelf_past
    have hn_Shelf_moment := T.na_Shelf_moment
    have hn_Shelf_busy := T.na_Shelf_busy
    refine ⟨_, (pss_cons (ps_set (i := 3) sc__law_shelf_is.nd rfl (by first | exact Or.inl rfl | exact Or.inr rfl) (pe_lst (pa_cons (pe_fldK (K := K) rfl (pv 0)) (pa_cons (pe_fldK (K := K) rfl (pv 0)) (pa_cons (pe_fldK (K := K) rfl (pv 0)) (pa_cons (pe_callB (call_lenO T.b_Shelf___len__ (okD_Shelf___len__ T) (hr.mono (by decide)) T.t_Shelf___len__.at_ T.t_Shelf___len__.fn) (by rfl) T.n_len (by decide +kernel) (pa_cons (pv 0) pa_nil)) (pa_cons (pe_callB (call_reprO T.b_Shelf___repr__ (okD_Shelf___repr__ T) (hr.mono (by decide)) T.t_Shelf___repr__.at_ T.t_Shelf___repr__.fn) (by rfl) T.n_repr (by decide +kernel) (pa_cons (pv 0) pa_nil)) (pa_cons (pe_callTy (call_boolO T.b_Shelf___len__ (okD_Shelf___len__ T) (hr.mono (by decide)) T.nb_Shelf T.t_Shelf___len__.at_ T.t_Shelf___len__.fn) (by rfl) T.n_bool (by decide +kernel) (pa_cons (pv 0) pa_nil)) pa_nil))))))))
        (pss_cons (ps_set (i := 4) sc__law_shelf_is.nd rfl (by first | exact Or.inl rfl | exact Or.inr rfl) (pe_lst (pa_cons (pe_tupOfK (K := K) rfl rfl T.n_tuple (pe_lc (own := [("_law_pair", 5)]) rfl sc__law_shelf_is.nd (pi_listK (K := K) rfl (pv 1)) (blkOk_by (N := ["_law_mine", "_law_there", "_law_is_busy", "_law_told", "_law_due", "_law_pair"]) (sc := L2.defScope s__law_shelf_is) (by decide +kernel)) (fun _ _ _ _ _ => (pg_name (i := 5) sc__law_shelf_is.nd rfl (by first | exact Or.inl rfl | exact Or.inr rfl))) (fun _ _ _ _ _ => pts_nil) (fun _ _ _ _ _ => (pe_ix (ix_K (K := K) rfl) (pv 5) pe_int (fun _ _ => rfl))))) (pa_cons (pe_tupOfK (K := K) rfl rfl T.n_tuple (pe_lc (own := [("_law_pair", 5)]) rfl sc__law_shelf_is.nd (pi_listK (K := K) rfl (pv 1)) (blkOk_by (N := ["_law_mine", "_law_there", "_law_is_busy", "_law_told", "_law_due", "_law_pair"]) (sc := L2.defScope s__law_shelf_is) (by decide +kernel)) (fun _ _ _ _ _ => (pg_name (i := 5) sc__law_shelf_is.nd rfl (by first | exact Or.inl rfl | exact Or.inr rfl))) (fun _ _ _ _ _ => pts_nil) (fun _ _ _ _ _ => (pe_ix (ix_K (K := K) rfl) (pv 5) pe_int (fun _ _ => rfl))))) (pa_cons (pv 2) (pa_cons (pe_callB (call_lenK (K := K) rfl) (by rfl) T.n_len (by decide +kernel) (pa_cons (pv 1) pa_nil)) pa_nil))))))
        (pss_one (ps_ret (pe_cmpR (op_eqA (K := K) rfl hr64) (pe_callB (call_reprQ (K := K) rfl hgd hr64) (by rfl) T.n_repr (by decide +kernel) (pa_cons (pv 3) pa_nil)) (pe_callB (call_reprQ (K := K) rfl hgd hr64) (by rfl) T.n_repr (by decide +kernel) (pa_cons (pe_op op_addU (pv 4) (pe_lst (pa_cons (pe_op op_addU (pe_op op_addU pe_str (pe_callTy call_str1 (by rfl) T.n_str (by decide +kernel) (pa_cons (pe_callB (call_lenK (K := K) rfl) (by rfl) T.n_len (by decide +kernel) (pa_cons (pv 1) pa_nil)) pa_nil))) pe_str) (pa_cons (pe_cmpR (op_neA (K := K) rfl hr64) (pv 1) (pe_lst pa_nil) (nomark _)) pa_nil)))) pa_nil)) (nomark _)))))), ?_⟩
    refine ⟨_, inferInstance, fun ds M R h => ?_⟩
    obtain ⟨a, r, wd, s, rfl, ⟨o1, o2, o3⟩, ha, hs, q⟩ := h
    rw [st__law_shelf_is]
    walk_at "dx"
    refine fs_texts T ha ?_
    walk_at "dx"
    refine fs_names T ha ?_
    walk_at "dx"
    refine fs_busy T ha ?_
    walk_at "dx"
    refine ⟨a, _, rfl, ha, a, r, wd, s, rfl, ha, _, rfl, by omega, by omega, ?_⟩
    walk_at "dx"
    refine ⟨_, _, _, rfl, .inr ⟨a, _, rfl, ha, rfl, rfl⟩, a, r, wd, s, rfl, o1, ha, _, rfl, ?_⟩
    walk_at "dx"
    refine ⟨_, _, _, rfl, .inr ⟨a, _, rfl, ha, rfl, rfl⟩, a, r, wd, s, rfl, ha, _, rfl, by omega, by omega, ?_⟩
    walk_at "dx"
    refine ⟨by rw [List.length_map]; omega, ?_⟩
    refine gather_all (f := fun d => match d with | .tup (x :: _) => x | d => d) ?_ trivial ?_
    · intro x hx Ky hy
      obtain ⟨⟨y, z⟩, hp, rfl⟩ := List.mem_map.mp hx
      unfold pD
      walk_at "dx"
      exact hy
    rw [show (s.th.map pD).map (fun d => match d with | D.tup (x :: _) => x | d => d) = (s.th.map (·.1)).map D.str by rw [List.map_map, List.map_map]; rfl]
    walk_at "dx"
    refine ⟨by rw [List.length_map]; omega, ?_⟩
    refine gather_all (f := fun d => match d with | .tup [_, y] => y | d => d) ?_ trivial ?_
    · intro x hx Ky hy
      obtain ⟨⟨y, z⟩, hp, rfl⟩ := List.mem_map.mp hx
      unfold pD
      walk_at "dx"
      exact hy
    rw [show (s.th.map pD).map (fun d => match d with | D.tup [_, y] => y | d => d) = (s.th.map (·.2)).map D.str by rw [List.map_map, List.map_map]; rfl]
    walk_at "dx"
    rw [th_texts, th_names]
    have ht1 : OkR K 4020 1 (.tup ((s.th.map (·.1)).map D.str)) (.tuple ((s.th.map (·.1)).map PyData.str)) := (OkRs.strs (n := 200) fun z hz => by
      obtain ⟨p, hp, rfl⟩ := List.mem_map.mp hz
      exact okT_cd (o2 p hp).1).tuple.mono (by rw [List.length_map]; omega) (by decide)
    have hn0 : OkRs K ((s.th.map (·.2)).length * 201) 0 ((s.th.map (·.2)).map D.str) ((s.th.map (·.2)).map PyData.str) := OkRs.strs (n := 200) fun z hz => by
      obtain ⟨p, hp, rfl⟩ := List.mem_map.mp hz
      exact okT_cd (ok_mono (o2 p hp).2 (by decide))
    have hn1 := hn0.ftup.mono (W' := 4020) (k' := 1) (by rw [List.length_map]; omega) (by decide)
    have hn2 := hn0.tuple.mono (W' := 4020) (k' := 1) (by rw [List.length_map]; omega) (by decide)
    have hsh := show8_ok o1
    have big : ∀ x y, OkR K 4020 1 x (.tuple ((s.th.map (·.1)).map PyData.str)) → OkR K 4020 1 y (.tuple ((s.th.map (·.2)).map PyData.str)) → OkR K 9000 2 (.lst [x, y, .bl s.busy, .int (s.th.length : Nat), .str (showS8 s.th.length), .bl (((s.th.length : Nat) : Int) != 0)]) (.list [.tuple ((s.th.map (·.1)).map PyData.str), .tuple ((s.th.map (·.2)).map PyData.str), .bool s.busy, .int (s.th.length : Nat), .str (showS8 s.th.length), .bool (((s.th.length : Nat) : Int) != 0)]) := fun x y h1 h2 =>
      (OkRs.list (OkRs.cons h1 (OkRs.cons h2 (OkRs.cons ((OkR.bl _).mono (W' := 0) (Nat.zero_le _) (Nat.zero_le _)) (OkRs.cons ((OkR.int (b := 70) (by have := o1; have e : (2 : Nat) ^ 70 = 1180591620717411303424 := rfl; omega)).mono (Nat.le_refl _) (Nat.zero_le _)) (OkRs.cons ((OkR.str hsh.1 hsh.2).mono (Nat.le_refl _) (Nat.zero_le _)) (OkRs.cons ((OkR.bl _).mono (W' := 0) (Nat.zero_le _) (Nat.zero_le _)) (OkRs.nil 0 1)))))))).mono (by decide) (by decide)
    refine reprR (big _ _ ht1 hn1) hs ?_
    walk_at "dx"
    rw [List.length_map]
    have dl : (Str.ofString (toString ((s.th.length : Nat) : Int))).length ≤ 2 := (show ∀ n, n ≤ 20 → (Str.ofString (toString ((n : Nat) : Int))).length ≤ 2 by decide +kernel) _ o1
    have k1 : (Str.ofString "Shelf(").length = 6 := rfl
    have k2 : (Str.ofString " texts)").length = 7 := rfl
    refine ⟨_, rfl, log_small (by omega), ?_⟩
    refine V.x_addS ⟨by rw [sizeLine_eq]; omega, ?_⟩
    walk_at "dx"
    refine V.x_addS ⟨by rw [len_append, sizeLine_eq]; omega, ?_⟩
    walk_at "dx"
    refine ne_nilD (eqok_prs o2) ?_
    walk_at "dx"
    refine V.x_addL ⟨by simp [sizeLine_eq], ?_⟩
    walk_at "dx"
    rw [show (Str.ofString "Shelf(" ++ Str.ofString (toString ((s.th.length : Nat) : Int)) ++ Str.ofString " texts)") = showS8 s.th.length from rfl, List.length_map, show (!decide (s.th.length = 0)) = (((s.th.length : Nat) : Int) != 0) by cases hz : s.th.length <;> rfl]
    refine reprR (big _ _ ht1 hn2) hs ?_
    walk_at "dx"
    rw [decide_eq_true rfl]
    exact q
end
end G
namespace G
open PySem PySem.Spec PyProof.Rows L2 U V
section
variable {P : Program} {w : World} {K : PySem.W.Frag} {mg : Str → Option Value} {base : Heap}
theorem one_lstD {p : Addr} {xs : List D} {M : Mem} {R : QD} (q : ∀ x ∈ xs, R x M) (h0 : 0 < xs.length := by simp) (h1 : xs.length < 1000000 := by simp) : spOneD [potD p, .lst xs] M R := ⟨p, _, rfl, .inl ⟨xs, .inl rfl, h0, h1, q⟩⟩
theorem okQ_text {z : Str} {n : Nat} (h : okText n z = true) : okQ n 0 (.str z) := okQ.str (okT_cd h).1 (okT_cd h).2
theorem okQ_row {z : Str} {d : D} {W k : Nat} (h1 : ∀ c ∈ cd z, c < 0x110000) (h2 : (cd z).length ≤ 14) (h3 : okQ W k d) : okQ (W + 16) (k + 1) (.tup [.str z, d]) := ((okQs.cons ((okQ.str h1 h2).mono (Nat.le_refl _) (Nat.zero_le _)) (okQs.cons h3 (okQs.nil 0 k))).tuple).mono (by omega) (Nat.le_refl _)
def spAddR (T : Tx K mg) : DC := fun ds M R => ∃ (a : Addr) (r : Ru) (wd : Nat) (s : Shl) (t : Str), ds = [.ptr a, .str r.str, .int (wd : Nat), .lst (s.th.map pD), .str t] ∧ TMs T M ∧ 6 ≤ wd ∧ wd ≤ 40 ∧ okS s ∧ s.busy = false ∧ okText 200 t = true ∧ M a = some (.ins T.C_Shelf (shlFs T.C_Namer r wd s)) ∧
  (20 ≤ s.th.length → R (.lst (s.th.map pD)) M) ∧ (s.th.length < 20 → R (.lst ((comeS r wd s t).th.map pD)) (mset M a (.ins T.C_Shelf (shlFs T.C_Namer r wd (comeS r wd s t)))))
theorem okD__law_added_right (T : Tx K mg) (B : TBs T base) : FnG P w K mg base lv__law_added_right T.f__law_added_right T.d__law_added_right p__law_added_right (lift (spAddR T)) := by
  refine fnDXC T.F__law_added_right sc__law_added_right T.cq__law_added_right (fun ds M R h => ?_) (fun A outer s H E hr hgd => ?_)
  · first | (obtain ⟨rfl, _⟩ := h; rfl) | (obtain ⟨_, rfl, _⟩ := h; rfl) | (obtain ⟨_, _, rfl, _⟩ := h; rfl) | (obtain ⟨_, _, _, rfl, _⟩ := h; rfl) | (obtain ⟨_, _, _, _, rfl, _⟩ := h; rfl) | (obtain ⟨_, _, _, _, _, rfl, _⟩ := h; rfl) | (obtain ⟨_, _, _, _, _, _, rfl, _⟩ := h; rfl) | (obtain ⟨_, _, _, _, _, _, _, rfl, _⟩ := h; rfl) | (obtain ⟨_, _, _, _, _, _, _, _, rfl, _⟩ := h; rfl)
  · have hr64 := hr.units
    have hc_Namer := T.c_Namer
    have hi_Namer := T.i_Namer
    have hn_Namer_rule := T.na_Namer_rule
    have hn_Namer_width := T.na_Namer_width
    have hc_Shelf := T.c_Shelf
    have hi_Shelf := T.i_Shelf
    have hn_Shelf_namer := T.na_Shelf_namer
    have hn_Shelf_there := T.na_Shelf_there
    have hn_Shelf_texts := T.na_Shelf_texts
    have hn_Shelf_names := T.na_Shelf_names
    have hn_Shelf_past := T.na_Shelf_past
    have hn_Shelf_moment := T.na_Shelf_moment
    have hn_Shelf_busy := T.na_Shelf_busy
    refine ⟨_, (pss_cons (ps_par (i := 5) (j := 6) rfl sc__law_added_right.nd rfl rfl (by decide) rfl rfl (pa_cons (show PE _ _ (tLamP _ (lamN "_law_added_right") _ _) from pe_lamQ (k := 8) (c := T.cc__law_added_right) (P := T.PP__law_added_right) rfl T.m__law_tried T.F__law_tried T.b__law_tried sc__law_tried rfl (.inl rfl) (fun cdv => tried__law_tried T rfl rfl rfl rfl rfl (L2H.roomH_of (hr.mono (by decide))) cdv _) B.t__law_added_right rfl (hr.mono (by decide)) (LamX.lamS_by (sc := L2.defScope s__law_added_right) (by decide +kernel)) rfl (fun _ _ _ _ _ => rfl) (fun A outer s H E f c' hr2 => ⟨_, (pe_meth (pv 0) T.c_Shelf T.t_Shelf_add (okX_Shelf_add T) (hr2.mono (by decide)) T.b_Shelf_add .nil (passX takesL) (pa_cons (pv 4) pa_nil)), rfl⟩)) (pa_cons (pe_call (okD__law_added T) (hr.mono (by decide)) rfl T.m__law_added T.F__law_added.kp T.b__law_added .nil pass0 (pa_cons (pv 1) (pa_cons (pv 2) (pa_cons (pv 3) (pa_cons (pv 4) pa_nil))))) pa_nil)) (by rfl))
        (pss_cons (ps_if (pt_val (pe_callB (call_isiK (K := K) rfl) (by rfl) T.n_isinstance (by decide +kernel) (pa_cons (pv 6) (pa_cons (pe_bt "tuple" rfl T.n_tuple (by decide +kernel)) pa_nil)))) (pss_one (ps_ret (pe_ifExp (pt_val (pe_callG (okD__law_is T) (hr.mono (by decide)) hgd rfl T.m__law_is T.F__law_is.kp T.b__law_is (pa_cons (pv 5) (pa_cons (pv 6) pa_nil)))) (pv 3) pe_non))) pss_nil)
        (pss_one (ps_ret (pe_ifExp (pt_val (pe_callG (okD__law_is T) (hr.mono (by decide)) hgd rfl T.m__law_is T.F__law_is.kp T.b__law_is (pa_cons (pv 5) (pa_cons (pe_tup (pa_cons pe_str (pa_cons (pe_ix (ix_K (K := K) rfl) (pe_ix (ix_K (K := K) rfl) (pv 6) (pe_un un_neg pe_int) (fun _ _ => rfl)) pe_int (fun _ _ => rfl)) pa_nil))) pa_nil)))) (pv 6) pe_non))))), ?_⟩
    refine ⟨_, inferInstance, fun ds M R h => ?_⟩
    obtain ⟨a, r, wd, s, t, rfl, tm, h6, h40, os, hb, ot, ha, q1, q2⟩ := h
    have ht := tm.t__law_added_right
    obtain ⟨o1, o2, o3⟩ := os
    rw [st__law_added_right]
    walk_at "dx"
    refine x_lamT ht (x_methX ?_)
    walk_at "dx"
    refine ⟨shelf_no ha (by decide +kernel), ?_⟩
    walk_at "dx"
    refine ⟨a, r, wd, s, .str t, rfl, h6, h40, ⟨o1, o2, o3⟩, ha, fun _ => ?_, fun e => by rw [hb] at e; cases e⟩
    by_cases c : s.th.length < 20
    · refine .inl ⟨t, rfl, ot, c, ?_⟩
      have tm2 := tm.chg ha trivial (.ins T.C_Shelf (shlFs T.C_Namer r wd (comeS r wd s t)))
      walk_at "dx"
      refine ⟨r, wd, s.th, t, rfl, h6, h40, ot, by omega, o2, ?_⟩
      unfold lAddD
      rw [if_neg (by omega)]
      walk_at "dx"
      refine ⟨_, false, .lst _, kit_ty (by decide +kernel), ?_⟩
      walk_at "dx"
      refine V.x_ixL (d := pD (t, nameG r wd t s.th)) (by rw [List.map_append]; exact atI_lastX _ _) ?_
      unfold pD
      walk_at "dx"
      refine ⟨_, _, _, rfl, okQ_row (by decide +kernel) (by decide +kernel) (okQ_text (nameG_ok h40 ot (by omega))), by decide, by decide, tm2.sys, ?_⟩
      walk_at "dx"
      exact ⟨_, mle_refl, q2 c⟩
    · refine .inr (.inr ⟨t, rfl, ot, by omega, ref_val T (any_TooMany T) (rf_TooMany T) rfl T.na_TooMany_limit ?_⟩)
      walk_at "dx"
      refine ⟨r, wd, s.th, t, rfl, h6, h40, ot, by omega, o2, ?_⟩
      unfold lAddD
      rw [if_pos (by omega)]
      walk_at "dx"
      refine ⟨_, true, .tup _, kit_ty (by decide +kernel), ?_⟩
      walk_at "dx"
      refine ⟨_, _, _, rfl, okQ_row (W := 70) (by decide +kernel) (by decide +kernel) (okQ.int (b := 70) (by decide)), by decide, by decide, tm.sys, ?_⟩
      walk_at "dx"
      exact ⟨_, mle_refl, q1 (by omega)⟩
theorem gone_hd {s : Shl} {z : Str} (h : z ∈ s.th.map (·.2)) : ∃ rest, (s.th.filter fun p => decide (p.2 = z)).map (·.1) = goneT s z :: rest := by
  unfold goneT
  have key : ∀ l : List (Str × Str), z ∈ l.map (·.2) → ∃ rest, (l.filter fun p => decide (p.2 = z)).map (·.1) = ((l.map (·.1))[(l.map (·.2)).idxOf z]?).getD Str.empty :: rest := by
    intro l
    induction l with
    | nil => intro h; cases h
    | cons a l ih =>
      intro h
      by_cases c : a.2 = z
      · rw [List.filter_cons, if_pos (decide_eq_true c), List.map_cons, List.map_cons, List.map_cons, List.idxOf_cons, show (a.2 == z) = true from beq_iff_eq.mpr c]
        exact ⟨_, rfl⟩
      · have h2 : z ∈ l.map (·.2) := by
          rcases List.mem_cons.mp h with e | e
          · exact absurd e.symm c
          · exact e
        obtain ⟨rest, e⟩ := ih h2
        rw [List.filter_cons, if_neg (fun e => c (of_decide_eq_true e)), List.map_cons, List.map_cons, List.idxOf_cons, show (a.2 == z) = false from beq_eq_false_iff_ne.mpr c]
        exact ⟨rest, e⟩
  exact key _ h
def spRemR (T : Tx K mg) : DC := fun ds M R => ∃ (a : Addr) (r : Ru) (wd : Nat) (s : Shl) (d : D), ds = [.ptr a, .lst (s.th.map pD), d] ∧ TMs T M ∧ okS s ∧ s.busy = false ∧ Askd d ∧ okQ 300 2 d ∧ M a = some (.ins T.C_Shelf (shlFs T.C_Namer r wd s)) ∧
  ((∀ z, d = .str z → z ∉ s.th.map (·.2)) → R (.lst (s.th.map pD)) M) ∧ (∀ z, d = .str z → z ∈ s.th.map (·.2) → R (.lst ((goneS s z).th.map pD)) (mset M a (.ins T.C_Shelf (shlFs T.C_Namer r wd (goneS s z)))))
theorem askd_bad {d : D} {M : Mem} {l : List Str} (h : Askd d) (n : ∀ z, d = .str z → z ∉ l) : BadNm K M l d := by
  rcases h with ⟨y, rfl⟩ | rfl | ⟨i, rfl⟩ | ⟨xs, rfl, e⟩ | ⟨xs, rfl, e⟩
  · exact .inl ⟨y, rfl, n y rfl⟩
  · exact .inr ⟨_, .non, by decide, by decide⟩
  · exact .inr ⟨_, .int i, by decide, by decide⟩
  · exact .inr ⟨_, .lst xs, by decide, by decide⟩
  · exact .inr ⟨_, .tup xs, by decide, by decide⟩
theorem okD__law_removed_right (T : Tx K mg) (B : TBs T base) : FnG P w K mg base lv__law_removed_right T.f__law_removed_right T.d__law_removed_right p__law_removed_right (lift (spRemR T)) := by
  refine fnDXC T.F__law_removed_right sc__law_removed_right T.cq__law_removed_right (fun ds M R h => ?_) (fun A outer s H E hr hgd => ?_)
  · first | (obtain ⟨rfl, _⟩ := h; rfl) | (obtain ⟨_, rfl, _⟩ := h; rfl) | (obtain ⟨_, _, rfl, _⟩ := h; rfl) | (obtain ⟨_, _, _, rfl, _⟩ := h; rfl) | (obtain ⟨_, _, _, _, rfl, _⟩ := h; rfl) | (obtain ⟨_, _, _, _, _, rfl, _⟩ := h; rfl) | (obtain ⟨_, _, _, _, _, _, rfl, _⟩ := h; rfl) | (obtain ⟨_, _, _, _, _, _, _, rfl, _⟩ := h; rfl) | (obtain ⟨_, _, _, _, _, _, _, _, rfl, _⟩ := h; rfl)
  · have hr64 := hr.units
    have hc_Namer := T.c_Namer
    have hi_Namer := T.i_Namer
    have hn_Namer_rule := T.na_Namer_rule
    have hn_Namer_width := T.na_Namer_width
    have hc_Shelf := T.c_Shelf
    have hi_Shelf := T.i_Shelf
    have hn_Shelf_namer := T.na_Shelf_namer
    have hn_Shelf_there := T.na_Shelf_there
    have hn_Shelf_texts := T.na_Shelf_texts
    have hn_Shelf_names := T.na_Shelf_names
    have hn_Shelf_past := T.na_Shelf_past
    have hn_Shelf_moment := T.na_Shelf_moment
    have hn_Shelf_busy := T.na_Shelf_busy
    refine ⟨_, (pss_cons (ps_par (i := 3) (j := 4) rfl sc__law_removed_right.nd rfl rfl (by decide) rfl rfl (pa_cons (show PE _ _ (tLamP _ (lamN "_law_removed_right") _ _) from pe_lamQ (k := 7) (c := T.cc__law_removed_right) (P := T.PP__law_removed_right) rfl T.m__law_tried T.F__law_tried T.b__law_tried sc__law_tried rfl (.inl rfl) (fun cdv => tried__law_tried T rfl rfl rfl rfl rfl (L2H.roomH_of (hr.mono (by decide))) cdv _) B.t__law_removed_right rfl (hr.mono (by decide)) (LamX.lamS_by (sc := L2.defScope s__law_removed_right) (by decide +kernel)) rfl (fun _ _ _ _ _ => rfl) (fun A outer s H E f c' hr2 => ⟨_, (pe_meth (pv 0) T.c_Shelf T.t_Shelf_remove (okX_Shelf_remove T) (hr2.mono (by decide)) T.b_Shelf_remove .nil (passX takesL) (pa_cons (pv 2) pa_nil)), rfl⟩)) (pa_cons (pe_call (okD__law_removed T) (hr.mono (by decide)) rfl T.m__law_removed T.F__law_removed.kp T.b__law_removed .nil pass0 (pa_cons (pv 1) (pa_cons (pv 2) pa_nil))) pa_nil)) (by rfl))
        (pss_cons (ps_if (pt_val (pe_callB (call_isiK (K := K) rfl) (by rfl) T.n_isinstance (by decide +kernel) (pa_cons (pv 4) (pa_cons (pe_bt "tuple" rfl T.n_tuple (by decide +kernel)) pa_nil)))) (pss_one (ps_ret (pe_ifExp (pt_val (pe_callG (okD__law_is T) (hr.mono (by decide)) hgd rfl T.m__law_is T.F__law_is.kp T.b__law_is (pa_cons (pv 3) (pa_cons (pv 4) pa_nil)))) (pv 1) pe_non))) pss_nil)
        (pss_cons (ps_set (i := 5) sc__law_removed_right.nd rfl (by first | exact Or.inl rfl | exact Or.inr rfl) (pe_ix (ix_K (K := K) rfl) (pe_lc (own := [("_law_pair", 6)]) rfl sc__law_removed_right.nd (pi_listK (K := K) rfl (pv 1)) (blkOk_by (N := ["_law_mine", "_law_there", "_law_name_here", "_law_told", "_law_later", "_law_gone", "_law_pair"]) (sc := L2.defScope s__law_removed_right) (by decide +kernel)) (fun _ _ _ _ _ => (pg_name (i := 6) sc__law_removed_right.nd rfl (by first | exact Or.inl rfl | exact Or.inr rfl))) (fun _ _ _ _ _ => (pts_one (pt_cmpR (op_eqA (K := K) rfl hr64) (pe_ix (ix_K (K := K) rfl) (pv 6) pe_int (fun _ _ => rfl)) (pv 2) (nomark _)))) (fun _ _ _ _ _ => (pe_ix (ix_K (K := K) rfl) (pv 6) pe_int (fun _ _ => rfl)))) pe_int (fun _ _ => rfl)))
        (pss_one (ps_ret (pe_ifExp (pt_val (pe_callG (okD__law_is T) (hr.mono (by decide)) hgd rfl T.m__law_is T.F__law_is.kp T.b__law_is (pa_cons (pv 3) (pa_cons (pe_tup (pa_cons pe_str (pa_cons (pv 5) pa_nil))) pa_nil)))) (pv 4) pe_non)))))), ?_⟩
    refine ⟨_, inferInstance, fun ds M R h => ?_⟩
    obtain ⟨a, r, wd, s, d, rfl, tm, os, hb, ad, qd, ha, q1, q2⟩ := h
    have ht := tm.t__law_removed_right
    obtain ⟨o1, o2, o3⟩ := os
    rw [st__law_removed_right]
    walk_at "dx"
    refine x_lamT ht (x_methX ?_)
    walk_at "dx"
    refine ⟨shelf_no ha (by decide +kernel), ?_⟩
    walk_at "dx"
    refine ⟨a, r, wd, s, d, rfl, ⟨o1, o2, o3⟩, ha, fun _ => ?_, fun e => by rw [hb] at e; cases e⟩
    by_cases c : ∃ z, d = .str z ∧ z ∈ s.th.map (·.2)
    · obtain ⟨z, rfl, hz⟩ := c
      refine .inl ⟨z, rfl, hz, ?_⟩
      have tm2 := tm.chg ha trivial (.ins T.C_Shelf (shlFs T.C_Namer r wd (goneS s z)))
      walk_at "dx"
      refine ⟨s.th, .str z, rfl, by omega, o2, ad, .inl ⟨z, rfl, hz, ?_⟩⟩
      walk_at "dx"
      refine ⟨_, false, .lst _, kit_ty (by decide +kernel), ?_⟩
      walk_at "dx"
      refine ⟨by rw [List.length_map]; omega, ?_⟩
      refine gather_map (f := fun d => match d with | .tup (x :: _) => x | d => d) (p := fun d => match d with | .tup [_, .str y] => decide (y = z) | _ => false) ?_ trivial ?_
      · intro x hx Ky Kn hy hn
        obtain ⟨⟨y, u⟩, hp, rfl⟩ := List.mem_map.mp hx
        unfold pD
        walk_at "dx"
        refine x_ite _ (fun c => ?_) (fun c => ?_)
        · walk_at "dx"
          exact hy (decide_eq_true c)
        · exact hn (decide_eq_false c)
      obtain ⟨rest, er⟩ := gone_hd hz
      rw [show List.map (fun d => match d with | D.tup (x :: _) => x | d => d) (List.filter (fun d => match d with | D.tup [_, D.str y] => decide (y = z) | _ => false) (List.map pD s.th)) = ((s.th.filter fun p => decide (p.2 = z)).map (·.1)).map D.str by rw [List.filter_map, List.map_map, List.map_map]; rfl, er, List.map_cons]
      refine V.x_ixL (atI_nat (j := 0) rfl) ?_
      walk_at "dx"
      have og : okText 200 (goneT s z) = true := by
        have h1 : goneT s z ∈ (s.th.filter fun p => decide (p.2 = z)).map (·.1) := by rw [er]; exact List.mem_cons_self
        obtain ⟨p, hp, e⟩ := List.mem_map.mp h1
        rw [← e]
        exact (o2 p (List.mem_filter.mp hp).1).1
      refine ⟨_, _, _, rfl, okQ_row (by decide +kernel) (by decide +kernel) (okQ_text og), by decide, by decide, tm2.sys, ?_⟩
      walk_at "dx"
      exact ⟨_, mle_refl, q2 z rfl hz⟩
    · have c2 : ∀ z, d = .str z → z ∉ s.th.map (·.2) := fun z e hz => c ⟨z, e, hz⟩
      refine .inr ⟨askd_bad ad c2, ref_val T (any_UnknownName T) (rf_UnknownName T) rfl T.na_UnknownName_value ?_⟩
      walk_at "dx"
      refine ⟨s.th, d, rfl, by omega, o2, ad, .inr ⟨c2, ?_⟩⟩
      walk_at "dx"
      refine ⟨_, true, .tup _, kit_ty (by decide +kernel), ?_⟩
      walk_at "dx"
      refine ⟨_, _, _, rfl, okQ_row (by decide +kernel) (by decide +kernel) qd, by decide, by decide, tm.sys, ?_⟩
      walk_at "dx"
      exact ⟨_, mle_refl, q1 c2⟩
theorem not_text {t : Str} : okText 200 (t ++ Str.ofString "_") = false := by
  rw [Bool.eq_false_iff]
  intro h
  have := (okText_iff.mp h).2 95 (by rw [cd_append]; exact List.mem_append_right _ (show 95 ∈ cd (Str.ofString "_") by decide +kernel))
  exact absurd this (by decide)
def spStep (T : Tx K mg) : DC := fun ds M R => ∃ (p a : Addr) (r : Ru) (wd : Nat) (s : Shl) (ss : List Str), ds = [potD p, .ptr a, .str r.str, .int (wd : Nat), .lst (s.th.map pD), .lst (ss.map .str)] ∧ (∀ z ∈ ss, okText 12 z = true) ∧ 0 < ss.length ∧ ss.length < 100 ∧ TMs T M ∧ 6 ≤ wd ∧ wd ≤ 40 ∧ okS s ∧ s.busy = false ∧ M a = some (.ins T.C_Shelf (shlFs T.C_Namer r wd s)) ∧
  R (.lst (s.th.map pD)) M ∧ (∀ t, okText 200 t = true → s.th.length < 20 → R (.lst ((comeS r wd s t).th.map pD)) (mset M a (.ins T.C_Shelf (shlFs T.C_Namer r wd (comeS r wd s t))))) ∧ (∀ z, z ∈ s.th.map (·.2) → R (.lst ((goneS s z).th.map pD)) (mset M a (.ins T.C_Shelf (shlFs T.C_Namer r wd (goneS s z)))))
theorem okD__law_step (T : Tx K mg) (B : TBs T base) : FnG P w K mg base lv__law_step T.f__law_step T.d__law_step p__law_step (lift (spStep T)) := by
  refine fnDXC T.F__law_step sc__law_step T.cq__law_step (fun ds M R h => ?_) (fun A outer s H E hr hgd => ?_)
  · first | (obtain ⟨rfl, _⟩ := h; rfl) | (obtain ⟨_, rfl, _⟩ := h; rfl) | (obtain ⟨_, _, rfl, _⟩ := h; rfl) | (obtain ⟨_, _, _, rfl, _⟩ := h; rfl) | (obtain ⟨_, _, _, _, rfl, _⟩ := h; rfl) | (obtain ⟨_, _, _, _, _, rfl, _⟩ := h; rfl) | (obtain ⟨_, _, _, _, _, _, rfl, _⟩ := h; rfl) | (obtain ⟨_, _, _, _, _, _, _, rfl, _⟩ := h; rfl) | (obtain ⟨_, _, _, _, _, _, _, _, rfl, _⟩ := h; rfl)
  · have hr64 := hr.units
    have hc_Namer := T.c_Namer
    have hi_Namer := T.i_Namer
    have hn_Namer_rule := T.na_Namer_rule
    have hn_Namer_width := T.na_Namer_width
    have hc_Shelf := T.c_Shelf
    have hi_Shelf := T.i_Shelf
    have hn_Shelf_namer := T.na_Shelf_namer
    have hn_Shelf_there := T.na_Shelf_there
    have hn_Shelf_texts := T.na_Shelf_texts
    have hn_Shelf_names := T.na_Shelf_names
    have hn_Shelf_past := T.na_Shelf_past
    have hn_Shelf_moment := T.na_Shelf_moment
    have hn_Shelf_busy := T.na_Shelf_busy
    refine ⟨_, (pss_cons (ps_par (i := 6) (j := 7) rfl sc__law_step.nd rfl rfl (by decide) rfl rfl (pa_cons (pe_call (okD__law_draw T) (hr.mono (by decide)) rfl T.m__law_draw T.F__law_draw.kp T.b__law_draw .nil pass0 (pa_cons (pv 0) (pa_cons pe_int pa_nil))) (pa_cons (pe_call (okD__law_word T) (hr.mono (by decide)) rfl T.m__law_word T.F__law_word.kp T.b__law_word .nil pass0 (pa_cons (pv 0) (pa_cons (pv 5) pa_nil))) pa_nil)) (by rfl))
        (pss_cons (ps_if (pt_cmpR op_ltU (pv 6) pe_int (nomark _)) (pss_one (ps_ret (pe_callG (okD__law_added_right T B) (hr.mono (by decide)) hgd rfl T.m__law_added_right T.F__law_added_right.kp T.b__law_added_right (pa_cons (pv 1) (pa_cons (pv 2) (pa_cons (pv 3) (pa_cons (pv 4) (pa_cons (pv 7) pa_nil)))))))) pss_nil)
        (pss_cons (ps_if (PW.pt (pw_and (pt_cmpR op_ltU (pv 6) pe_int (nomark _)) (pw_and1 (pt_cmpR (op_neA (K := K) rfl hr64) (pv 4) (pe_lst pa_nil) (nomark _))))) (pss_one (ps_ret (pe_callG (okD__law_removed_right T B) (hr.mono (by decide)) hgd rfl T.m__law_removed_right T.F__law_removed_right.kp T.b__law_removed_right (pa_cons (pv 1) (pa_cons (pv 4) (pa_cons (pe_ix (ix_K (K := K) rfl) (pe_call (okD__law_one T) (hr.mono (by decide)) rfl T.m__law_one T.F__law_one.kp T.b__law_one .nil pass0 (pa_cons (pv 0) (pa_cons (pv 4) pa_nil))) pe_int (fun _ _ => rfl)) pa_nil)))))) pss_nil)
        (pss_cons (ps_if (pt_cmpR (op_eqA (K := K) rfl hr64) (pv 6) pe_int (nomark _)) (pss_cons (ps_set (i := 8) sc__law_step.nd rfl (by first | exact Or.inl rfl | exact Or.inr rfl) (pe_call (okD__law_one T) (hr.mono (by decide)) rfl T.m__law_one T.F__law_one.kp T.b__law_one .nil pass0 (pa_cons (pv 0) (pa_cons (pe_lst (pa_cons pe_str (pa_cons pe_non (pa_cons pe_str (pa_cons (pe_op op_mulS pe_str pe_int) (pa_cons (pe_lst (pa_cons pe_str pa_nil)) (pa_cons pe_int (pa_cons (pe_op op_addU (pv 7) pe_str) pa_nil)))))))) pa_nil))))
        (pss_one (ps_ret (pe_ifExp (pt_val (pe_callG (okD__law_is T) (hr.mono (by decide)) hgd rfl T.m__law_is T.F__law_is.kp T.b__law_is (pa_cons (show PE _ _ (tLamP _ (lamN "_law_step") _ _) from pe_lamQ (k := 9) (c := T.cc__law_step) (P := T.PP__law_step) rfl T.m__law_tried T.F__law_tried T.b__law_tried sc__law_tried rfl (.inl rfl) (fun cdv => tried__law_tried T rfl rfl rfl rfl rfl (L2H.roomH_of (hr.mono (by decide))) cdv _) B.t__law_step rfl (hr.mono (by decide)) (LamX.lamS_by (sc := L2.defScope s__law_step) (by decide +kernel)) rfl (fun _ _ _ _ _ => rfl) (fun A outer s H E f c' hr2 => ⟨_, (pe_meth (pv 1) T.c_Shelf T.t_Shelf_add (okX_Shelf_add T) (hr2.mono (by decide)) T.b_Shelf_add .nil (passX takesL) (pa_cons (pv 8) pa_nil)), rfl⟩)) (pa_cons (pe_tup (pa_cons pe_str (pa_cons (pv 8) pa_nil))) pa_nil)))) (pv 4) pe_non)))) pss_nil)
        (pss_one (ps_ret (pe_callG (okD__law_removed_right T B) (hr.mono (by decide)) hgd rfl T.m__law_removed_right T.F__law_removed_right.kp T.b__law_removed_right (pa_cons (pv 1) (pa_cons (pv 4) (pa_cons (pe_call (okD__law_one T) (hr.mono (by decide)) rfl T.m__law_one T.F__law_one.kp T.b__law_one .nil pass0 (pa_cons (pv 0) (pa_cons (pe_lst (pa_cons (pv 7) (pa_cons pe_non (pa_cons pe_int (pa_cons (pe_lst (pa_cons (pv 7) pa_nil)) (pa_cons pe_str (pa_cons pe_str (pa_cons (pe_tup (pa_cons (pv 7) pa_nil)) pa_nil)))))))) pa_nil))) pa_nil)))))))))), ?_⟩
    refine ⟨_, inferInstance, fun ds M R h => ?_⟩
    obtain ⟨p, a, r, wd, s, ss, rfl, hss, ss0, ss1, tm, h6, h40, os, hb, ha, q0, q1, q2⟩ := h
    have ht := tm.t__law_step
    obtain ⟨o1, o2, o3⟩ := os
    rw [st__law_step]
    walk_at "dx"
    refine draw_D (by omega) (by omega) fun n0 hn0 => ?_
    walk_at "dx"
    refine ⟨p, ss, rfl, hss, ss0, ss1, fun t ot => ?_⟩
    walk_at "dx"
    refine x_ite _ (fun c => ?_) (fun c => ?_)
    · walk_at "dx"
      exact ⟨a, r, wd, s, t, rfl, tm, h6, h40, ⟨o1, o2, o3⟩, hb, ot, ha, fun _ => ⟨_, mle_refl, q0⟩, fun c => ⟨_, mle_refl, q1 t ot c⟩⟩
    show sSeq (sIf _ _ _) _ _ _ _ _ _ _
    refine x_mid (fun δ' M1 => M1 = M ∧ δ' = [some (potD p), some (.ptr a), some (.str r.str), some (.int (wd : Nat)), some (.lst (s.th.map pD)), some (.lst (ss.map .str)), some (.int (n0 : Nat)), some (.str t), none]) (fun nx' hnx => ?_) ?_
    · walk_at "dx"
      by_cases c6 : n0 < 6
      · rw [decide_eq_true (show ((n0 : Nat) : Int) < 6 by omega), if_pos rfl]
        walk_at "dx"
        refine ne_nilD (eqok_prs o2) ?_
        rw [List.length_map]
        by_cases cz : s.th.length = 0
        · rw [decide_eq_true cz]
          walk_at "dx"
          exact hnx _ _ ⟨rfl, rfl⟩
        · rw [decide_eq_false cz]
          walk_at "dx"
          refine one_lstD (fun x hx => ?_) (by rw [List.length_map]; omega) (by rw [List.length_map]; omega)
          obtain ⟨⟨y, z⟩, hp, rfl⟩ := List.mem_map.mp hx
          have hz : z ∈ s.th.map (·.2) := List.mem_map.mpr ⟨_, hp, rfl⟩
          unfold pD
          walk_at "dx"
          exact ⟨a, r, wd, s, .str z, rfl, tm, ⟨o1, o2, o3⟩, hb, .inl ⟨z, rfl⟩, (okQ_text (o2 _ hp).2).mono (by decide) (by decide), ha, fun h => absurd hz (h z rfl), fun z' e hz' => by cases e; exact ⟨_, mle_refl, q2 z hz'⟩⟩
      · rw [decide_eq_false (show ¬ ((n0 : Nat) : Int) < 6 by omega), if_neg Bool.false_ne_true]
        walk_at "dx"
        exact hnx _ _ ⟨rfl, rfl⟩
    · rintro δ' M1 ⟨rfl, rfl⟩
      walk_at "dx"
      refine x_ite _ (fun c => ?_) (fun c => ?_)
      · walk_at "dx"
        refine ⟨_, _, rfl, rfl, by decide, by decide, by decide, ?_⟩
        walk_at "dx"
        have tl : t.length ≤ 200 := (okText_iff.mp ot).1
        refine V.x_addS ⟨by rw [sizeLine_eq]; have k1 : (Str.ofString "_").length = 1 := rfl; omega, ?_⟩
        walk_at "dx"
        refine one_lstD (fun o ho => ?_)
        have hx : (∀ M, BadT K M 200 o) ∧ okQ 300 2 o := by
          simp only [List.mem_cons, List.not_mem_nil, or_false] at ho
          rcases ho with rfl | rfl | rfl | rfl | rfl | rfl | rfl
          · exact ⟨fun M => badT_str (by decide +kernel) (by decide +kernel), (okQ.str (n := 9) (by decide +kernel) (by decide +kernel)).mono (by decide) (by decide)⟩
          · exact ⟨fun M => badT_of "NoneType" .non (by decide) (by decide), okQ.non.mono (by decide) (by decide)⟩
          · exact ⟨fun M => badT_str (by decide +kernel) (by decide +kernel), (okQ.str (n := 9) (by decide +kernel) (by decide +kernel)).mono (by decide) (by decide)⟩
          · exact ⟨fun M => badT_str (by decide +kernel) (by decide +kernel), (okQ.str (n := 201) (by decide +kernel) (by decide +kernel)).mono (by decide) (by decide)⟩
          · exact ⟨fun M => badT_of "list" (.lst _) (by decide) (by decide), (okQs.cons (okQ.str (n := 9) (by decide +kernel) (by decide +kernel)) (okQs.nil 0 0)).list.mono (by decide) (by decide)⟩
          · exact ⟨fun M => badT_of "int" (.int _) (by decide) (by decide), (okQ.int (b := 70) (by decide)).mono (by decide) (by decide)⟩
          · refine ⟨fun M => badT_str not_text (by rw [len_append]; have k1 : (Str.ofString "_").length = 1 := rfl; omega), (okQ.str (n := 201) (fun c hc => ?_) ?_).mono (by decide) (by decide)⟩
            · rw [cd_append] at hc
              rcases List.mem_append.mp hc with h | h
              · exact (okT_cd ot).1 c h
              · exact (show ∀ c ∈ cd (Str.ofString "_"), c < 0x110000 by decide +kernel) c h
            · rw [cd_len, len_append]
              have k1 : (Str.ofString "_").length = 1 := rfl
              omega
        clear ho
        walk_at "dx"
        refine x_lamT ht (x_methX ?_)
        walk_at "dx"
        refine ⟨shelf_no ha (by decide +kernel), ?_⟩
        walk_at "dx"
        refine ⟨a, r, wd, s, o, rfl, h6, h40, ⟨o1, o2, o3⟩, ha, fun _ => .inr (.inl ⟨hx.1 _, ref_val T (any_InvalidText T) (rf_InvalidText T) rfl T.na_InvalidText_value ?_⟩), fun e => by rw [hb] at e; cases e⟩
        walk_at "dx"
        refine ⟨_, _, _, rfl, okQ_row (by decide +kernel) (by decide +kernel) hx.2, by decide, by decide, tm.sys, ?_⟩
        walk_at "dx"
        exact ⟨_, mle_refl, q0⟩
      · walk_at "dx"
        refine one_lstD (fun o ho => ?_)
        have hx : Askd o ∧ okQ 300 2 o := by
          have qt : okQ 200 0 (.str t) := okQ_text ot
          simp only [List.mem_cons, List.not_mem_nil, or_false] at ho
          rcases ho with rfl | rfl | rfl | rfl | rfl | rfl | rfl
          · exact ⟨.inl ⟨_, rfl⟩, qt.mono (by decide) (by decide)⟩
          · exact ⟨.inr (.inl rfl), okQ.non.mono (by decide) (by decide)⟩
          · exact ⟨.inr (.inr (.inl ⟨_, rfl⟩)), (okQ.int (b := 70) (by decide)).mono (by decide) (by decide)⟩
          · exact ⟨.inr (.inr (.inr (.inl ⟨_, rfl, EqOk.of (okPs.cons (okP.text ot) (okPs.nil 0 0)).list (by decide)⟩))), (okQs.cons qt (okQs.nil 0 0)).list.mono (by decide) (by decide)⟩
          · exact ⟨.inl ⟨_, rfl⟩, (okQ.str (n := 9) (by decide +kernel) (by decide +kernel)).mono (by decide) (by decide)⟩
          · exact ⟨.inl ⟨_, rfl⟩, (okQ.str (n := 9) (by decide +kernel) (by decide +kernel)).mono (by decide) (by decide)⟩
          · exact ⟨.inr (.inr (.inr (.inr ⟨_, rfl, EqOk.of (okPs.cons (okP.text ot) (okPs.nil 0 0)).tuple (by decide)⟩))), (okQs.cons qt (okQs.nil 0 0)).tuple.mono (by decide) (by decide)⟩
        walk_at "dx"
        exact ⟨a, r, wd, s, o, rfl, tm, ⟨o1, o2, o3⟩, hb, hx.1, hx.2, ha, fun _ => ⟨_, mle_refl, q0⟩, fun z e hz => ⟨_, mle_refl, q2 z hz⟩⟩
end
end G
namespace G
open PySem PySem.Spec PyProof.Rows L2 U V
section
variable {P : Program} {w : World} {K : PySem.W.Frag} {mg : Str → Option Value} {base : Heap}
def rIntB : List V → Hp → VK → Prop := fun xs H Q => ∃ k, xs = [.bl k] ∧ Q (.int (if k then 1 else 0)) H
theorem call_intB {X : Cx} : CallR X (.type "int") rIntB := fun pins s σ H xs us Q I r h => call_int1 pins s σ H xs us Q I r (.inr h)
def rIntB1 : DC := fun ds M P => ∃ k, ds = [.bl k] ∧ P (.int (if k then 1 else 0)) M
instance cb_intB : CbD rIntB rIntB1 := ⟨fun S M H vs ds P Q w hv h k => by
  obtain ⟨i, rfl, p⟩ := h
  match hv with
  | .cons h1 .nil =>
    cases h1
    exact ⟨i, rfl, k _ S M _ H p .refl w (.int _)⟩⟩
def psD (ps : List (List (Str × Str))) : List D := ps.map fun l => .lst (l.map pD)
/-- what a shelf keeps through deeds -/
structure RunS (T : Tx K mg) (M : Mem) (a : Addr) (r : Ru) (wd : Nat) (s : Shl) (i : Nat) : Prop where
  tm : TMs T M
  at_ : M a = some (.ins T.C_Shelf (shlFs T.C_Namer r wd s))
  le : s.th.length ≤ 20
  th : okTh s.th
  pl : s.past.length ≤ i
  ps : ∀ l ∈ s.past, l.length ≤ 20 ∧ okTh l
  bs : s.busy = false
  ml : Mle (M0 (Ts T)) M
theorem RunS.stay {T : Tx K mg} {M : Mem} {a : Addr} {r : Ru} {wd i : Nat} {s : Shl} (h : RunS T M a r wd s i) : RunS T M a r wd s (i + 1) := ⟨h.tm, h.at_, h.le, h.th, Nat.le_succ_of_le h.pl, h.ps, h.bs, h.ml⟩
theorem RunS.come {T : Tx K mg} {M : Mem} {a : Addr} {r : Ru} {wd i : Nat} {s : Shl} {t : Str} (h : RunS T M a r wd s i) (na : M0 (Ts T) a = none) (h40 : wd ≤ 40) (ot : okText 200 t = true) (c : s.th.length < 20) : RunS T (mset M a (.ins T.C_Shelf (shlFs T.C_Namer r wd (comeS r wd s t)))) a r wd (comeS r wd s t) (i + 1) := by
  refine ⟨h.tm.chg h.at_ trivial _, mset_same, ?_, fun p hp => ?_, ?_, fun l hl => ?_, h.bs, V.mle_put h.ml na⟩
  · show (s.th ++ [_]).length ≤ 20
    rw [List.length_append]
    exact c
  · rcases List.mem_append.mp hp with h1 | h1
    · exact h.th p h1
    · rw [List.mem_singleton] at h1
      subst h1
      exact ⟨ot, nameG_ok h40 ot (by omega)⟩
  · show (s.past ++ [_]).length ≤ i + 1
    rw [List.length_append]
    exact Nat.succ_le_succ h.pl
  · rcases List.mem_append.mp hl with h1 | h1
    · exact h.ps l h1
    · rw [List.mem_singleton] at h1
      subst h1
      exact ⟨h.le, h.th⟩
theorem RunS.gone {T : Tx K mg} {M : Mem} {a : Addr} {r : Ru} {wd i : Nat} {s : Shl} {z : Str} (h : RunS T M a r wd s i) (na : M0 (Ts T) a = none) : RunS T (mset M a (.ins T.C_Shelf (shlFs T.C_Namer r wd (goneS s z)))) a r wd (goneS s z) (i + 1) := by
  refine ⟨h.tm.chg h.at_ trivial _, mset_same, ?_, fun p hp => ?_, ?_, fun l hl => ?_, h.bs, V.mle_put h.ml na⟩
  · show (s.th.eraseIdx _).length ≤ 20
    have := h.le
    rw [List.length_eraseIdx]
    split <;> omega
  · exact h.th p (List.mem_of_mem_eraseIdx hp)
  · show (s.past ++ [_]).length ≤ i + 1
    rw [List.length_append]
    exact Nat.succ_le_succ h.pl
  · rcases List.mem_append.mp hl with h1 | h1
    · exact h.ps l h1
    · rw [List.mem_singleton] at h1
      subst h1
      exact ⟨h.le, h.th⟩
theorem RunS.undo {T : Tx K mg} {M : Mem} {a : Addr} {r : Ru} {wd i : Nat} {s : Shl} (h : RunS T M a r wd s i) (na : M0 (Ts T) a = none) (hp : s.past ≠ []) : RunS T (mset M a (.ins T.C_Shelf (shlFs T.C_Namer r wd (undoS s)))) a r wd (undoS s) i := by
  have e : (undoS s).th = s.past.getLast hp := by
    show (s.past.getLast?).getD [] = _
    rw [List.getLast?_eq_getLast hp]
    rfl
  have hl := h.ps _ (List.getLast_mem hp)
  refine ⟨h.tm.chg h.at_ trivial _, mset_same, by rw [e]; exact hl.1, by rw [e]; exact hl.2, ?_, fun l hl => h.ps l ((List.dropLast_sublist _).subset hl), h.bs, V.mle_put h.ml na⟩
  show s.past.dropLast.length ≤ i
  rw [List.length_dropLast]
  exact Nat.le_trans (Nat.sub_le _ _) h.pl
theorem RunS.up {T : Tx K mg} {M : Mem} {a : Addr} {r : Ru} {wd i j : Nat} {s : Shl} (h : RunS T M a r wd s i) (e : s.past.length ≤ j) : RunS T M a r wd s j := ⟨h.tm, h.at_, h.le, h.th, e, h.ps, h.bs, h.ml⟩
theorem rep_past {x : D} {b : Bool} {M : Mem} {R : QD} (q : R (.lst (if b then [x] else [])) M) : rIntB1 [.bl b] M fun y M1 => rRep1 (.lst [x]) y M1 R :=
  ⟨b, rfl, [x], _, .inl rfl, rfl, by cases b <;> decide, by cases b <;> decide, by rw [sizeLine_eq]; cases b <;> simp, by cases b <;> exact q⟩
theorem eq_nothing {M : Mem} {R : QD} (q : R (.bl true) M) : rEq1 (.tup [.str (rfWord 14)]) (.tup [.str (Str.ofString "nothing")]) M R := by
  have E : EqOk (.tup [.str (Str.ofString "nothing")]) := EqOk.of (okPs.cons (okP.text (n := 7) (by decide +kernel)) (okPs.nil 0 0)).tuple (by decide)
  show EqOk _ ∧ EqOk _ ∧ R (.bl (D.eqb (.tup [.str (Str.ofString "nothing")]) (.tup [.str (Str.ofString "nothing")]))) M
  rw [eqb_refl E]
  exact ⟨E, E, q⟩
theorem eqok_ps {T : Tx K mg} {M : Mem} {a : Addr} {r : Ru} {wd i : Nat} {s : Shl} (h : RunS T M a r wd s i) : EqOk (.lst (psD s.past)) := EqOk.of (okPs.list (okPs.all (W := 20 * 301) (k := 2) fun d hd => by
    obtain ⟨l, hl, rfl⟩ := List.mem_map.mp hd
    refine ((okPs.all (W := 300) (k := 1) (ds := l.map pD) fun d hd => ?_).list).mono ?_ (by decide)
    · obtain ⟨p, hp, rfl⟩ := List.mem_map.mp hd
      exact ((okPs.cons (okP.text ((h.ps l hl).2 _ hp).1) (okPs.cons (okP.text ((h.ps l hl).2 _ hp).2) (okPs.nil 0 0))).tuple).mono (by decide) (by decide)
    · have := (h.ps l hl).1
      rw [List.length_map]
      omega)) (by decide)
theorem eq_nm (T : Tx K mg) {r r2 : Ru} {wd wd2 : Nat} {M : Mem} {R : QD} (q : R (.bl (decide (r.str = r2.str) && decide (wd = wd2))) M) : rEqOwnD2 T.C_Namer (spNmEq T.C_Namer K) (namerD T.C_Namer r wd) (namerD T.C_Namer r2 wd2) M R :=
  ⟨_, _, rfl, .inr (.inr (.inr (.inr (.inr ⟨_, _, rfl⟩)))), r, wd, _, rfl, .inl ⟨r2, wd2, rfl, _, rfl, q⟩⟩
theorem one3 {p : Addr} {M : Mem} {R : QD} (q : ∀ r : Ru, R (.str r.str) M) : spOneD [potD p, .lst [.str (Str.ofString "count"), .str (Str.ofString "free"), .str (Str.ofString "tight")]] M R := ⟨p, _, rfl, .inl ⟨_, .inl rfl, by decide, by decide, fun x hx => by
  simp only [List.mem_cons, List.not_mem_nil, or_false] at hx
  rcases hx with rfl | rfl | rfl
  · exact q .count
  · exact q .free
  · exact q .tight⟩⟩
theorem okD__law_source (T : Tx K mg) : FnOk P w K mg base L2.CX0 lv__law_source T.f__law_source T.d__law_source p__law_source (lift (spPotD K)) := fn_weak (fn_newPotN (GO.ok1__law_source T) rfl) pot_lift
theorem okD_law (T : Tx K mg) (B : TBs T base) : FnG P w K mg base lv_law T.f_law T.d_law p_law (lift (spLawD K (Ts T))) := by
  refine fnDXC T.F_law sc_law T.cq_law (fun ds M R h => ?_) (fun A outer s H E hr hgd => ?_)
  · first | (obtain ⟨rfl, _⟩ := h; rfl) | (obtain ⟨_, rfl, _⟩ := h; rfl) | (obtain ⟨_, _, rfl, _⟩ := h; rfl) | (obtain ⟨_, _, _, rfl, _⟩ := h; rfl) | (obtain ⟨_, _, _, _, rfl, _⟩ := h; rfl) | (obtain ⟨_, _, _, _, _, rfl, _⟩ := h; rfl) | (obtain ⟨_, _, _, _, _, _, rfl, _⟩ := h; rfl) | (obtain ⟨_, _, _, _, _, _, _, rfl, _⟩ := h; rfl) | (obtain ⟨_, _, _, _, _, _, _, _, rfl, _⟩ := h; rfl)
  · have hr64 := hr.units
    have hc_Namer := T.c_Namer
    have hi_Namer := T.i_Namer
    have hn_Namer_rule := T.na_Namer_rule
    have hn_Namer_width := T.na_Namer_width
    have hc_Shelf := T.c_Shelf
    have hi_Shelf := T.i_Shelf
    have hn_Shelf_namer := T.na_Shelf_namer
    have hn_Shelf_there := T.na_Shelf_there
    have hn_Shelf_texts := T.na_Shelf_texts
    have hn_Shelf_names := T.na_Shelf_names
    have hn_Shelf_past := T.na_Shelf_past
    have hn_Shelf_moment := T.na_Shelf_moment
    have hn_Shelf_busy := T.na_Shelf_busy
    refine ⟨_, (pss_cons (ps_set (i := 1) sc_law.nd rfl (by first | exact Or.inl rfl | exact Or.inr rfl) (pe_call (okD__law_source T) (hr.mono (by decide)) rfl T.m__law_source T.F__law_source.kp T.b__law_source .nil pass0 (pa_cons (pv 0) (pa_cons pe_int pa_nil))))
        (pss_cons (ps_par (i := 2) (j := 3) rfl sc_law.nd rfl rfl (by decide) rfl rfl (pa_cons (pe_call (okD__law_one T) (hr.mono (by decide)) rfl T.m__law_one T.F__law_one.kp T.b__law_one .nil pass0 (pa_cons (pv 1) (pa_cons (pe_lst (pa_cons pe_str (pa_cons pe_str (pa_cons pe_str pa_nil)))) pa_nil))) (pa_cons (pe_op op_addU pe_int (pe_call (okD__law_draw T) (hr.mono (by decide)) rfl T.m__law_draw T.F__law_draw.kp T.b__law_draw .nil pass0 (pa_cons (pv 1) (pa_cons (pe_call (okD__law_one T) (hr.mono (by decide)) rfl T.m__law_one T.F__law_one.kp T.b__law_one .nil pass0 (pa_cons (pv 1) (pa_cons (pe_lst (pa_cons pe_int (pa_cons pe_int (pa_cons pe_int pa_nil)))) pa_nil))) pa_nil)))) pa_nil)) (by rfl))
        (pss_cons (ps_asg (pe_tup (pa_cons (pe_lst (pa_cons (pe_call (okD__law_stem T) (hr.mono (by decide)) rfl T.m__law_stem T.F__law_stem.kp T.b__law_stem .nil pass0 (pa_cons (pv 1) (pa_cons pe_int pa_nil))) (pa_cons (pe_call (okD__law_stem T) (hr.mono (by decide)) rfl T.m__law_stem T.F__law_stem.kp T.b__law_stem .nil pass0 (pa_cons (pv 1) (pa_cons pe_int pa_nil))) pa_nil))) (pa_cons (pe_make T.M_Shelf (okD_Shelf___init__ T) (hr.mono (by decide)) rfl T.m_Shelf T.b_Shelf___init__ .nil pass0 (pa_cons (pe_make T.M_Namer (okF_Namer___init__ T) (hr.mono (by decide)) rfl T.m_Namer T.b_Namer___init__ .nil pass0 (pa_cons (pv 2) (pa_cons (pv 3) pa_nil))) pa_nil)) (pa_cons (pe_lst pa_nil) (pa_cons (pe_lst pa_nil) pa_nil))))) (pg_tupK (K := K) (n := 4) rfl rfl (pgs_cons (pg_name (i := 4) sc_law.nd rfl (by first | exact Or.inl rfl | exact Or.inr rfl)) (pgs_cons (pg_name (i := 5) sc_law.nd rfl (by first | exact Or.inl rfl | exact Or.inr rfl)) (pgs_cons (pg_name (i := 6) sc_law.nd rfl (by first | exact Or.inl rfl | exact Or.inr rfl)) (pgs_cons (pg_name (i := 7) sc_law.nd rfl (by first | exact Or.inl rfl | exact Or.inr rfl)) pgs_nil))))))
        (pss_cons (ps_for PassesOwn.never rfl (pi_range1 rfl T.n_range (pa_cons (pe_callB (call_maxU rfl) (by rfl) T.n_max (by decide +kernel) (pa_cons pe_int (pa_cons (pe_callB (call_minU rfl) (by rfl) T.n_min (by decide +kernel) (pa_cons (pe_callB (show CallR _ _ (rLenUS K) from call_lenK (K := K) rfl) (by rfl) T.n_len (by decide +kernel) (pa_cons (pv 0) pa_nil)) (pa_cons pe_int pa_nil))) pa_nil))) pa_nil)) (pg_name (i := 8) sc_law.nd rfl (by first | exact Or.inl rfl | exact Or.inr rfl)) (pss_cons (ps_if (pt_cmpR op_gt (pv 8) pe_int (nomark _)) (pss_one (ps_set (i := 1) sc_law.nd rfl (by first | exact Or.inl rfl | exact Or.inr rfl) (pe_call (okD__law_source T) (hr.mono (by decide)) rfl T.m__law_source T.F__law_source.kp T.b__law_source .nil pass0 (pa_cons (pv 0) (pa_cons (pv 8) pa_nil))))) pss_nil)
        (pss_cons (ps_if (pt_cmpR (op_eqA (K := K) rfl hr64) (pe_call (okD__law_draw T) (hr.mono (by decide)) rfl T.m__law_draw T.F__law_draw.kp T.b__law_draw .nil pass0 (pa_cons (pv 1) (pa_cons pe_int pa_nil))) pe_int (nomark _)) (pss_cons (ps_set (i := 9) sc_law.nd rfl (by first | exact Or.inl rfl | exact Or.inr rfl) (show PE _ _ (tLamP _ (lamN "law") _ _) from pe_lamQ (k := 10) (c := T.cc_law) (P := T.PP_law) rfl T.m__law_tried T.F__law_tried T.b__law_tried sc__law_tried rfl (.inl rfl) (fun cdv => tried__law_tried T rfl rfl rfl rfl rfl (L2H.roomH_of (hr.mono (by decide))) cdv _) B.t_law rfl (hr.mono (by decide)) (LamX.lamS_by (sc := L2.defScope s_law) (by decide +kernel)) rfl (fun _ _ _ _ _ => rfl) (fun A outer s H E f c' hr2 => ⟨_, (pe_meth0 (pv 5) T.c_Shelf T.t_Shelf_undo (okX_Shelf_undo T) (hr2.mono (by decide)) T.b_Shelf_undo .nil (passX takesL)), rfl⟩)))
        (pss_cons (ps_if (pt_not (pt_val (pe_callG (okD__law_is T) (hr.mono (by decide)) hgd rfl T.m__law_is T.F__law_is.kp T.b__law_is (pa_cons (pv 9) (pa_cons (pe_ifExp (pt_cmpR (op_neA (K := K) rfl hr64) (pv 7) (pe_lst pa_nil) (nomark _)) (pe_tup (pa_cons pe_str (pa_cons pe_non pa_nil))) (pe_tup (pa_cons pe_str pa_nil))) pa_nil))))) (pss_one (ps_ret pe_bl)) pss_nil)
        (pss_one (ps_if (pt_cmpR (op_neA (K := K) rfl hr64) (pv 7) (pe_lst pa_nil) (nomark _)) (pss_one (ps_par (i := 6) (j := 7) rfl sc_law.nd rfl rfl (by decide) rfl rfl (pa_cons (pe_ix (ix_K (K := K) rfl) (pv 7) (pe_un un_neg pe_int) (fun _ _ => rfl)) (pa_cons (pe_slice (sl_Z (K := K) rfl) (pv 7) po_none (po_some (pe_un un_neg pe_int))) pa_nil)) (by rfl))) pss_nil)))) (pss_cons (ps_set (i := 10) sc_law.nd rfl (by first | exact Or.inl rfl | exact Or.inr rfl) (pe_callG (okD__law_step T B) (hr.mono (by decide)) hgd rfl T.m__law_step T.F__law_step.kp T.b__law_step (pa_cons (pv 1) (pa_cons (pv 5) (pa_cons (pv 2) (pa_cons (pv 3) (pa_cons (pv 6) (pa_cons (pv 4) pa_nil))))))))
        (pss_cons (ps_if (pt_cmpR op_isN1 (pv 10) pe_non (nomark _)) (pss_one (ps_ret pe_bl)) pss_nil)
        (pss_one (ps_par (i := 7) (j := 6) rfl sc_law.nd rfl rfl (by decide) rfl rfl (pa_cons (pe_op op_addU (pv 7) (pe_op op_rep (pe_lst (pa_cons (pv 6) pa_nil)) (pe_callTy call_intB (by rfl) T.n_int (by decide +kernel) (pa_cons (pe_cmpR (op_neA (K := K) rfl hr64) (pe_callB (call_lenK (K := K) rfl) (by rfl) T.n_len (by decide +kernel) (pa_cons (pv 10) pa_nil)) (pe_callB (call_lenK (K := K) rfl) (by rfl) T.n_len (by decide +kernel) (pa_cons (pv 6) pa_nil)) (nomark _)) pa_nil)))) (pa_cons (pv 10) pa_nil)) (by rfl))))))
        (pss_one (ps_if (PW.pt (pw_and (pt_cmpR op_gt (pe_call (okD__law_draw T) (hr.mono (by decide)) rfl T.m__law_draw T.F__law_draw.kp T.b__law_draw .nil pass0 (pa_cons (pv 1) (pa_cons pe_int pa_nil))) pe_int (nomark _)) (pw_and1 (pt_not (pt_val (pe_callG (okD__law_shelf_is T) (hr.mono (by decide)) hgd rfl T.m__law_shelf_is T.F__law_shelf_is.kp T.b__law_shelf_is (pa_cons (pv 5) (pa_cons (pv 6) (pa_cons pe_bl pa_nil))))))))) (pss_one (ps_ret pe_bl)) pss_nil)))))
        (pss_cons (ps_for PassesOwn.never rfl (pi_range1 rfl T.n_range (pa_cons (pe_callB (call_lenK (K := K) rfl) (by rfl) T.n_len (by decide +kernel) (pa_cons (pv 7) pa_nil)) pa_nil)) (pg_name (i := 11) sc_law.nd rfl (by first | exact Or.inl rfl | exact Or.inr rfl)) (pss_one (ps_if (PW.pt (pw_or (pt_cmpR op_notN1 (pe_meth0 (pv 5) T.c_Shelf T.t_Shelf_undo (okD_Shelf_undo T) (hr.mono (by decide)) T.b_Shelf_undo .nil pass0) pe_non (nomark _)) (pw_or1 (pt_not (pt_val (pe_callG (okD__law_shelf_is T) (hr.mono (by decide)) hgd rfl T.m__law_shelf_is T.F__law_shelf_is.kp T.b__law_shelf_is (pa_cons (pv 5) (pa_cons (pe_ix (ix_K (K := K) rfl) (pv 7) (pe_op op_sub (pe_op op_sub (pe_callB (call_lenK (K := K) rfl) (by rfl) T.n_len (by decide +kernel) (pa_cons (pv 7) pa_nil)) pe_int) (pv 11)) (fun _ _ => rfl)) (pa_cons pe_bl pa_nil))))))))) (pss_one (ps_ret pe_bl)) pss_nil)))
        (pss_one (ps_ret (pe_and (pe_cmpR (op_eqA (K := K) rfl hr64) (show PE _ _ (tLamP _ (lamN "law") _ _) from pe_lamQ (k := 10) (c := T.cc_law) (P := T.PP_law) rfl T.m__law_tried T.F__law_tried T.b__law_tried sc__law_tried rfl (.inl rfl) (fun cdv => tried__law_tried T rfl rfl rfl rfl rfl (L2H.roomH_of (hr.mono (by decide))) cdv _) B.t_law rfl (hr.mono (by decide)) (LamX.lamS_by (sc := L2.defScope s_law) (by decide +kernel)) rfl (fun _ _ _ _ _ => rfl) (fun A outer s H E f c' hr2 => ⟨_, (pe_meth0 (pv 5) T.c_Shelf T.t_Shelf_undo (okX_Shelf_undo T) (hr2.mono (by decide)) T.b_Shelf_undo .nil (passX takesL)), rfl⟩)) (pe_tup (pa_cons pe_str pa_nil)) (nomark _)) (pe_one (pe_cmpR (op_eqOwn2 T.b_Namer___eq__ (okD_Namer___eq__ T) (hr.mono (by decide)) T.no2_Namer T.t_Namer___eq__.at_ T.t_Namer___eq__.fn) (pe_fldK (K := K) rfl (pv 5)) (pe_make T.M_Namer (okF_Namer___init__ T) (hr.mono (by decide)) rfl T.m_Namer T.b_Namer___init__ .nil pass0 (pa_cons (pv 2) (pa_cons (pv 3) pa_nil))) (nomark _))))))))))), ?_⟩
    refine ⟨_, inferInstance, fun ds M R h => ?_⟩
    obtain ⟨d, ns, rfl, hd, hl, rfl, q⟩ := h
    have hM := tms_M0 T
    rw [st_law]
    walk_at "dx"
    refine ⟨d, ns, 0, rfl, hd, hl, by decide, fun p => ?_⟩
    walk_at "dx"
    refine one3 fun r => ?_
    walk_at "dx"
    refine one_lstD (fun x hx => ?_)
    obtain ⟨n, rfl, hn1, hn2⟩ : ∃ n : Nat, x = .int (n : Nat) ∧ 1 ≤ n ∧ n ≤ 35 := by
      simp only [List.mem_cons, List.not_mem_nil, or_false] at hx
      rcases hx with rfl | rfl | rfl
      · exact ⟨1, rfl, by decide, by decide⟩
      · exact ⟨6, rfl, by decide, by decide⟩
      · exact ⟨35, rfl, by decide, by decide⟩
    clear hx
    walk_at "dx"
    refine draw_D (by omega) (by omega) fun n0 hn0 => ?_
    obtain ⟨wd, hwd, h6, h40⟩ : ∃ wd : Nat, (6 + ((n0 : Nat) : Int)) = (wd : Nat) ∧ 6 ≤ wd ∧ wd ≤ 40 := ⟨6 + n0, by omega, by omega, by omega⟩
    walk_at "dx"
    rw [hwd]
    refine ⟨p, 9, rfl, by decide, by decide, fun s1 os1 => ?_⟩
    walk_at "dx"
    refine ⟨p, 9, rfl, by decide, by decide, fun s2 os2 => ?_⟩
    walk_at "dx"
    refine mk_nm h6 h40 ?_
    walk_at "dx"
    refine fun a na => ⟨a, r, wd, rfl, mset_same, ?_⟩
    refine ⟨rfl, ?_⟩
    rw [mset_set]
    walk_at "dx"
    refine ⟨d, ns, rfl, hd, ?_⟩
    walk_at "dx"
    have hss : ∀ z ∈ [s1, s2], okText 12 z = true := fun z hz => by
      simp only [List.mem_cons, List.not_mem_nil, or_false] at hz
      rcases hz with rfl | rfl
      · exact ok_mono os1 (by decide)
      · exact ok_mono os2 (by decide)
    have run0 : RunS T (mset (M0 (Ts T)) a (.ins T.C_Shelf (shlFs T.C_Namer r wd ⟨[], [], .non, false⟩))) a r wd ⟨[], [], .non, false⟩ 0 :=
      ⟨hM.set na _, mset_same, Nat.zero_le _, (fun _ hp => nomatch hp), Nat.zero_le _, (fun _ hl => nomatch hl), rfl, V.mle_put mle_refl na⟩
    refine ⟨by split <;> split <;> omega, by split <;> split <;> omega, trivial, ?_⟩
    refine loop_inv (fun i δ M' => ∃ (p : Addr) (s : Shl) (u : Option D × Option D × Option D), RunS T M' a r wd s i ∧ δ = [some d, some (potD p), some (.str r.str), some (.int (wd : Nat)), some (.lst [.str s1, .str s2]), some (.ptr a), some (.lst (s.th.map pD)), some (.lst (psD s.past)), u.1, u.2.1, u.2.2, none]) ⟨p, _, (none, none, none), run0, rfl⟩ ?_ ?_
    · rintro i x δ M' Kc hx ⟨p, s, ⟨u1, u2, u3⟩, rn, rfl⟩ hk
      obtain ⟨hk2, _⟩ := List.getElem?_eq_some_iff.mp hx
      rw [rgD_get hk2] at hx
      cases hx
      rw [rgD_len] at hk2
      have hi : i < 24 := by revert hk2; split <;> split <;> omega
      rw [Int.zero_add]
      refine V.x_gN ?_
      dsimp only [List.set_cons_zero, List.set_cons_succ]
      refine x_mid (fun δ' M1 => M1 = M' ∧ ∃ p, δ' = [some d, some (potD p), some (.str r.str), some (.int (wd : Nat)), some (.lst [.str s1, .str s2]), some (.ptr a), some (.lst (s.th.map pD)), some (.lst (psD s.past)), some (.int (i : Nat)), u2, u3, none]) (fun nx' hnx => ?_) ?_
      · walk_at "dx"
        refine x_ite _ (fun c => ?_) (fun c => ?_)
        · walk_at "dx"
          refine ⟨d, ns, i, rfl, hd, hl, by omega, fun p => ?_⟩
          walk_at "dx"
          exact hnx _ _ ⟨rfl, p, rfl⟩
        · walk_at "dx"
          exact hnx _ _ ⟨rfl, p, rfl⟩
      rintro δ' M1 ⟨rfl, p, rfl⟩
      have lp : (psD s.past).length = s.past.length := List.length_map _
      refine x_mid (fun δ' M2 => ∃ (s' : Shl) (u : Option D × Option D), RunS T M2 a r wd s' (i + 1) ∧ δ' = [some d, some (potD p), some (.str r.str), some (.int (wd : Nat)), some (.lst [.str s1, .str s2]), some (.ptr a), some (.lst (s'.th.map pD)), some (.lst (psD s'.past)), some (.int (i : Nat)), u.1, u.2, none]) (fun nx' hnx => ?_) ?_
      · walk_at "dx"
        refine draw_D (by omega) (by omega) fun n1 hn1 => ?_
        walk_at "dx"
        refine x_ite _ (fun c => ?_) (fun c => ?_)
        · walk_at "dx"
          refine x_lamT rn.tm.t_law (x_methX ?_)
          walk_at "dx"
          refine ⟨shelf_no rn.at_ (by decide +kernel), ?_⟩
          walk_at "dx"
          by_cases hp : s.past = []
          · refine ⟨a, r, wd, s, rfl, fun l hl => (rn.ps l hl).1, by have := rn.pl; omega, rn.at_, fun _ h => absurd hp h, fun _ _ => ref_no T (any_NothingToUndo T) (rf_NothingToUndo T) (.inl rfl) ?_, fun e => by rw [rn.bs] at e; cases e⟩
            walk_at "dx"
            refine ne_nilD (eqok_ps rn) ?_
            rw [lp, decide_eq_true (by rw [hp]; rfl)]
            walk_at "dx"
            refine ⟨_, _, _, rfl, okQ.mono (okQs.cons (okQ.str (n := 9) (by decide +kernel) (by decide +kernel)) (okQs.nil 0 0)).tuple (Nat.le_refl _) (Nat.le_refl _), by decide, by decide, rn.tm.sys, ?_⟩
            walk_at "dx"
            refine ne_nilD (eqok_ps rn) ?_
            rw [lp, decide_eq_true (by rw [hp]; rfl)]
            walk_at "dx"
            exact hnx _ _ ⟨s, (_, _), rn.stay, rfl⟩
          · refine ⟨a, r, wd, s, rfl, fun l hl => (rn.ps l hl).1, by have := rn.pl; omega, rn.at_, fun _ h => ?_, fun _ h => absurd h hp, fun e => by rw [rn.bs] at e; cases e⟩
            have rn2 := rn.undo na hp
            walk_at "dx"
            refine ne_nilD (eqok_ps rn) ?_
            have hpl := List.length_pos_iff.mpr hp
            rw [lp, decide_eq_false (by omega)]
            walk_at "dx"
            refine ⟨_, _, _, rfl, okQ_row (by decide +kernel) (by decide +kernel) okQ.non, by decide, by decide, rn2.tm.sys, ?_⟩
            walk_at "dx"
            refine ne_nilD (eqok_ps rn) ?_
            rw [lp, decide_eq_false (by omega)]
            walk_at "dx"
            obtain ⟨pl, l, hs⟩ : ∃ pl l, s.past = pl ++ [l] := ⟨_, _, (List.dropLast_concat_getLast hp).symm⟩
            have ep : psD s.past = psD pl ++ [.lst (l.map pD)] := by rw [hs]; exact List.map_append
            have eu : (undoS s).th = l ∧ (undoS s).past = pl := by unfold undoS; rw [hs]; simp
            refine V.x_ixL (d := .lst (l.map pD)) (by rw [ep]; exact atI_lastX _ _) ?_
            walk_at "dx"
            rw [ep, cutG_init]
            walk_at "dx"
            exact hnx _ _ ⟨undoS s, (_, _), rn2.stay, by rw [eu.1, eu.2]⟩
        · walk_at "dx"
          refine ⟨p, a, r, wd, s, [s1, s2], rfl, hss, by simp, by simp, rn.tm, h6, h40, ⟨rn.le, rn.th, by have := rn.pl; omega⟩, rn.bs, rn.at_, ?_, fun t ot c => ?_, fun z hz => ?_⟩
          · walk_at "dx"
            rw [show V.isNon (D.lst (s.th.map pD)) = false from rfl, if_neg Bool.false_ne_true]
            walk_at "dx"
            refine rep_past ?_
            rw [decide_eq_true rfl]
            refine V.x_addL ⟨by rw [sizeLine_eq]; simp; have := rn.pl; omega, ?_⟩
            walk_at "dx"
            exact hnx _ _ ⟨s, (u2, some (.lst (s.th.map pD))), rn.stay, by rw [show (if (!true) = true then [D.lst (s.th.map pD)] else []) = [] from rfl, List.append_nil]⟩
          · have rn2 := rn.come na h40 ot c
            walk_at "dx"
            rw [show V.isNon (D.lst ((comeS r wd s t).th.map pD)) = false from rfl, if_neg Bool.false_ne_true]
            walk_at "dx"
            refine rep_past ?_
            have l1 : (comeS r wd s t).th.length = s.th.length + 1 := List.length_append
            rw [decide_eq_false (by rw [List.length_map, List.length_map, l1]; omega)]
            refine V.x_addL ⟨by rw [sizeLine_eq]; simp; have := rn.pl; omega, ?_⟩
            walk_at "dx"
            exact hnx _ _ ⟨comeS r wd s t, (u2, some (.lst ((comeS r wd s t).th.map pD))), rn2, by rw [show psD (comeS r wd s t).past = psD s.past ++ [D.lst (s.th.map pD)] from List.map_append]; rfl⟩
          · have rn2 := rn.gone (z := z) na
            walk_at "dx"
            rw [show V.isNon (D.lst ((goneS s z).th.map pD)) = false from rfl, if_neg Bool.false_ne_true]
            walk_at "dx"
            refine rep_past ?_
            have l1 : (goneS s z).th.length + 1 = s.th.length := by
              have hlt := List.idxOf_lt_length_of_mem hz
              rw [List.length_map] at hlt
              show (s.th.eraseIdx _).length + 1 = _
              rw [List.length_eraseIdx, if_pos hlt]
              omega
            rw [decide_eq_false (by rw [List.length_map, List.length_map]; omega)]
            refine V.x_addL ⟨by rw [sizeLine_eq]; simp; have := rn.pl; omega, ?_⟩
            walk_at "dx"
            exact hnx _ _ ⟨goneS s z, (u2, some (.lst ((goneS s z).th.map pD))), rn2, by rw [show psD (goneS s z).past = psD s.past ++ [D.lst (s.th.map pD)] from List.map_append]; rfl⟩
      · rintro δ' M2 ⟨s', ⟨v1, v2⟩, rn2, rfl⟩
        walk_at "dx"
        refine draw_D (by omega) (by omega) fun n1 hn1 => ?_
        walk_at "dx"
        by_cases c : 0 < n1
        · rw [decide_eq_true (show (0 : Int) < (n1 : Nat) by omega), if_pos rfl]
          walk_at "dx"
          refine ⟨a, r, wd, s', by rw [rn2.bs], ⟨rn2.le, rn2.th, by have := rn2.pl; omega⟩, rn2.at_, rn2.tm.sys, ?_⟩
          walk_at "dx"
          exact (hk _ _ trivial ⟨p, s', (_, _, _), rn2, rfl⟩).2
        · rw [decide_eq_false (show ¬ (0 : Int) < (n1 : Nat) by omega), if_neg Bool.false_ne_true]
          walk_at "dx"
          exact (hk _ _ trivial ⟨p, s', (_, _, _), rn2, rfl⟩).2
    · rintro δ M' ⟨p, s, ⟨u1, u2, u3⟩, rn, rfl⟩
      rw [rgD_len] at rn
      have r24 : s.past.length ≤ 24 := Nat.le_trans rn.pl (by split <;> split <;> omega)
      have lp : (psD s.past).length = s.past.length := List.length_map _
      walk_at "dx"
      refine ⟨by omega, by omega, trivial, ?_⟩
      refine loop_inv (fun i δ M2 => ∃ (s' : Shl) (u : Option D), RunS T M2 a r wd s' 24 ∧ s'.past = s.past.take (s.past.length - i) ∧ δ = [some d, some (potD p), some (.str r.str), some (.int (wd : Nat)), some (.lst [.str s1, .str s2]), some (.ptr a), some (.lst (s.th.map pD)), some (.lst (psD s.past)), u1, u2, u3, u]) ⟨s, none, rn.up r24, by rw [Nat.sub_zero, List.take_length], rfl⟩ ?_ ?_
      · rintro i x δ M2 Kc hx ⟨s', u, rn', ep, rfl⟩ hk
        obtain ⟨hk2, _⟩ := List.getElem?_eq_some_iff.mp hx
        rw [rgD_get hk2] at hx
        cases hx
        rw [rgD_len, lp] at hk2
        have hi : i < s.past.length := by omega
        have hne : s'.past ≠ [] := by
          rw [ep]
          intro e
          have := congrArg List.length e
          rw [List.length_take] at this
          simp at this
          omega
        have rn2 := rn'.undo na hne
        rw [Int.zero_add]
        walk_at "dx"
        refine ⟨shelf_no rn'.at_ (by decide +kernel), ?_⟩
        walk_at "dx"
        refine ⟨a, r, wd, s', rfl, hne, fun l hl => (rn'.ps l hl).1, by have := rn'.pl; omega, rn'.bs, rn'.at_, ?_⟩
        walk_at "dx"
        rw [show (!V.isNon D.non) = false from rfl, if_neg Bool.false_ne_true]
        walk_at "dx"
        obtain ⟨l, hl⟩ : ∃ l, s.past[s.past.length - 1 - i]? = some l := ⟨_, List.getElem?_eq_getElem (by omega)⟩
        have eu : (undoS s').th = l := by
          show (s'.past.getLast?).getD [] = l
          rw [List.getLast?_eq_getElem?, ep, List.length_take, Nat.min_eq_left (by omega), List.getElem?_take_of_lt (by omega), show s.past.length - i - 1 = s.past.length - 1 - i by omega, hl]
          rfl
        have eq2 : (undoS s').past = s.past.take (s.past.length - (i + 1)) := by
          show s'.past.dropLast = _
          rw [List.dropLast_eq_take, ep, List.take_take, List.length_take]
          congr 1
          omega
        refine V.x_ixL (d := .lst (l.map pD)) (by rw [lp, show ((s.past.length : Nat) : Int) - 1 - ((i : Nat) : Int) = ((s.past.length - 1 - i : Nat) : Int) by omega]; exact atI_nat (by unfold psD; rw [List.getElem?_map, hl]; rfl)) ?_
        walk_at "dx"
        refine ⟨a, r, wd, undoS s', by rw [eu, rn2.bs], ⟨rn2.le, rn2.th, by have := rn2.pl; omega⟩, rn2.at_, rn2.tm.sys, ?_⟩
        walk_at "dx"
        exact (hk _ _ trivial ⟨undoS s', _, rn2, eq2, rfl⟩).2
      · rintro δ M2 ⟨s', u, rn', ep, rfl⟩
        rw [rgD_len, lp] at ep
        have e0 : s'.past = [] := by rw [ep, show s.past.length - (((s.past.length : Nat) : Int) - 0).toNat = 0 by omega]; rfl
        walk_at "dx"
        refine x_lamT rn'.tm.t_law (x_methX ?_)
        walk_at "dx"
        refine ⟨shelf_no rn'.at_ (by decide +kernel), ?_⟩
        walk_at "dx"
        refine ⟨a, r, wd, s', rfl, fun l hl => (rn'.ps l hl).1, by have := rn'.pl; omega, rn'.at_, fun _ h => absurd e0 h, fun _ _ => ref_no T (any_NothingToUndo T) (rf_NothingToUndo T) (.inl rfl) ?_, fun e => by rw [rn'.bs] at e; cases e⟩
        walk_at "dx"
        refine eq_nothing ?_
        walk_at "dx"
        refine fs_namer T rn'.at_ ?_
        walk_at "dx"
        refine mk_nm h6 h40 ?_
        walk_at "dx"
        refine eq_nm T ?_
        rw [decide_eq_true rfl, decide_eq_true rfl]
        exact ⟨_, rn'.ml, q⟩
end
end G
namespace G
open PySem PySem.Spec PyProof.Rows L2 U V
theorem law_end {P : Program} {w : World} {K : PySem.W.Frag} {h : Heap} {mg : Str → Option Value} {fa fl : Addr} (X : K.In h) (G0 : h.Ns mainGlobals mg) (hmg : mg "law" = some (.ref fa)) (n1 : K.lookup sysModules = none)  (e : ∃ T : Tx K mg, T.f_law = fl ∧ h.get? T.PP__law_added_right = some { cls := .none, data := .fields #[] } ∧ h.get? T.PP__law_removed_right = some { cls := .none, data := .fields #[] } ∧ h.get? T.PP__law_step = some { cls := .none, data := .fields #[] } ∧ h.get? T.PP_law = some { cls := .none, data := .fields #[] }) :
    ∃ (fd : FuncData) (cs : List (Addr × Addr)), K.In h ∧ (∀ p ∈ cs, h.get? p.2 = some { cls := .none, data := .fields #[] }) ∧ (∀ p ∈ cs, K.lookup p.2 = none) ∧ (∀ p ∈ cs, PySem.W.CodeHd h p.1 p.2) ∧ K.lookup sysModules = none ∧ (∀ (t : Shared) (u : Value), BindsTo t fd ⟨[u], []⟩ [("_law_script", u)]) ∧
      ∀ base : Heap, K.In base → base.Ns mainGlobals mg → (∀ p ∈ cs, LamX.TabB base mg p.1 p.2) → FnG P w K mg base lv_law fa fd ["_law_script"] (spLawT K cs) := by
  obtain ⟨T, _, h0, h1, h2, h3⟩ := e
  have q := hmg.symm.trans T.m_law
  cases q
  have all : ∀ {φ : Addr × Addr → Prop}, φ (T.cc__law_added_right, T.PP__law_added_right) → φ (T.cc__law_removed_right, T.PP__law_removed_right) → φ (T.cc__law_step, T.PP__law_step) → φ (T.cc_law, T.PP_law) → ∀ p ∈ Cs T, φ p := fun {φ} a0 a1 a2 a3 p hp => by
    simp only [Cs, List.mem_cons, List.not_mem_nil, or_false] at hp
    rcases hp with rfl | rfl | rfl | rfl
    · exact a0
    · exact a1
    · exact a2
    · exact a3
  refine ⟨T.d_law, Cs T, X, all h0 h1 h2 h3, all T.np__law_added_right T.np__law_removed_right T.np__law_step T.np_law, all (PySem.W.codeHd_of_K X T.hd__law_added_right) (PySem.W.codeHd_of_K X T.hd__law_removed_right) (PySem.W.codeHd_of_K X T.hd__law_step) (PySem.W.codeHd_of_K X T.hd_law), n1, ?_, fun base _ _ hB => fnG_weak (okD_law T (tbs_of T hB)) (law_liftT (tms_hT T))⟩
  obtain ⟨oc, od, kV, doc, pm, an, cdv, ct, osl, efd, lk, hcd⟩ := T.F_law.ex
  intro t u
  rw [efd]
  exact .of_eq rfl
end G
open PySem PySem.W PyProof.Rows
set_option maxRecDepth 100000 in
set_option maxHeartbeats 0 in
theorem PySem.Challenge.cw_shownshort_k48_whole_shelves_through_dee_holds : PySem.Challenge.rw_shownshort_k48_whole_shelves_through_dee.Holds := by
  w_on; o_law; k_head; (case hw => w_witness2)
  k_fill
  refine V.walkGT (l := PySem.Challenge.rw_shownshort_k48_whole_shelves_through_dee) (k := G.lv_law) (x := "_law_script") rfl rfl ⟨rfl, by decide, by decide⟩ (by decide +kernel) (fun w h Y => PySem.W.km_in_of Y) ?F
  case F =>
    intro w mg fa h Y KX G0 hmg
    refine' G.law_end KX G0 hmg ?x_me_sy (G.all_mk KX G0 ?x_n_ArithmeticError ?x_n_LookupError ?x_n_ValueError ?x_n_abs ?x_n_all ?x_n_bool ?x_n_divmod ?x_n_enumerate ?x_n_int ?x_n_isinstance ?x_n_len ?x_n_max ?x_n_min ?x_n_range ?x_n_repr ?x_n_str ?x_n_tuple ?x_k_MOST_SIGNS ?x_k_MOST_TEXT ?x_k_MOST_SHELVED ?x_k_SIGNS ?x_m_RULES ?x_q_RULES ?x_k_LEAST_WIDTH ?x_k_FIRST_NUMBER ?x_m_DEEDS ?x_q_DEEDS ?x_C_InputError ?x_C_StateError ?x_C_SizeError ?x_C_InvalidNumber ?x_C_InvalidMark ?x_C_InvalidText ?x_C_InvalidLength ?x_C_InvalidRule ?x_C_InvalidWidth ?x_C_InvalidPlace ?x_C_InvalidLine ?x_C_NotANamer ?x_C_NotAShelf ?x_C_InvalidRow ?x_C_InvalidViews ?x_C_InvalidTexts ?x_C_InvalidDeeds ?x_C_NothingToUndo ?x_C_Busy ?x_C_UnknownName ?x_C_TooMany ?x_L_InvalidText ?x_me_R_InvalidText ?x_xs_InvalidText ?x_xe_InvalidText ?x_xt_InvalidText ?x_xk_InvalidText ?x_na_InvalidText_value ?x_a_InvalidText___init__ ?x_j_InvalidText___init__ ?x_i_InvalidText___init__ ?x_l_InvalidText___init__ ?x_c_InvalidText___init__ ?x_k_InvalidText___init__ ?x_L_InvalidRule ?x_me_R_InvalidRule ?x_xs_InvalidRule ?x_xe_InvalidRule ?x_xt_InvalidRule ?x_xk_InvalidRule ?x_na_InvalidRule_value ?x_a_InvalidRule___init__ ?x_j_InvalidRule___init__ ?x_i_InvalidRule___init__ ?x_l_InvalidRule___init__ ?x_c_InvalidRule___init__ ?x_k_InvalidRule___init__ ?x_L_InvalidWidth ?x_me_R_InvalidWidth ?x_xs_InvalidWidth ?x_xe_InvalidWidth ?x_xt_InvalidWidth ?x_xk_InvalidWidth ?x_na_InvalidWidth_value ?x_a_InvalidWidth___init__ ?x_j_InvalidWidth___init__ ?x_i_InvalidWidth___init__ ?x_l_InvalidWidth___init__ ?x_c_InvalidWidth___init__ ?x_k_InvalidWidth___init__ ?x_L_NotANamer ?x_me_R_NotANamer ?x_xs_NotANamer ?x_xe_NotANamer ?x_xt_NotANamer ?x_xk_NotANamer ?x_na_NotANamer_value ?x_a_NotANamer___init__ ?x_j_NotANamer___init__ ?x_i_NotANamer___init__ ?x_l_NotANamer___init__ ?x_c_NotANamer___init__ ?x_k_NotANamer___init__ ?x_L_InvalidDeeds ?x_me_R_InvalidDeeds ?x_xs_InvalidDeeds ?x_xe_InvalidDeeds ?x_xt_InvalidDeeds ?x_xk_InvalidDeeds ?x_na_InvalidDeeds_index ?x_a_InvalidDeeds___init__ ?x_j_InvalidDeeds___init__ ?x_i_InvalidDeeds___init__ ?x_l_InvalidDeeds___init__ ?x_c_InvalidDeeds___init__ ?x_k_InvalidDeeds___init__ ?x_L_UnknownName ?x_me_R_UnknownName ?x_xs_UnknownName ?x_xe_UnknownName ?x_xt_UnknownName ?x_xk_UnknownName ?x_na_UnknownName_value ?x_a_UnknownName___init__ ?x_j_UnknownName___init__ ?x_i_UnknownName___init__ ?x_l_UnknownName___init__ ?x_c_UnknownName___init__ ?x_k_UnknownName___init__ ?x_L_TooMany ?x_me_R_TooMany ?x_xs_TooMany ?x_xe_TooMany ?x_xt_TooMany ?x_xk_TooMany ?x_na_TooMany_limit ?x_a_TooMany___init__ ?x_j_TooMany___init__ ?x_i_TooMany___init__ ?x_l_TooMany___init__ ?x_c_TooMany___init__ ?x_k_TooMany___init__ ?x_me_q_Busy ?x_kq_Busy ?x_bq_Busy ?x_tq_Busy ?x_me_q_NothingToUndo ?x_kq_NothingToUndo ?x_bq_NothingToUndo ?x_tq_NothingToUndo ?x_ga_InvalidText ?x_gg_InvalidText ?x_xd_InvalidText ?x_xa_InvalidText ?x_xn_InvalidText ?x_xq_InvalidText ?x_xm_InvalidText ?x_me_kr_InvalidText_0 ?x_me_kr_InvalidText_1 ?x_me_kr_InvalidText_2 ?x_me_kr_InvalidText_3 ?x_me_kr_InvalidText_4 ?x_me_kr_InvalidText_5 ?x_me_kr_InvalidText_6 ?x_me_kr_InvalidText_7 ?x_me_kr_InvalidText_8 ?x_me_kr_InvalidText_9 ?x_me_kr_InvalidText_10 ?x_me_kr_InvalidText_11 ?x_me_kr_InvalidText_12 ?x_me_kr_InvalidText_13 ?x_me_kr_InvalidText_14 ?x_me_kr_InvalidText_15 ?x_me_kr_InvalidText_16 ?x_me_kr_InvalidText_17 ?x_me_kr_InvalidText_18 ?x_me_kr_InvalidText_19 ?x_me_kr_InvalidText_20 ?x_me_kr_InvalidText_21 ?x_me_kr_InvalidText_22 ?x_me_kr_InvalidText_23 ?x_ga_TooMany ?x_gg_TooMany ?x_xd_TooMany ?x_xa_TooMany ?x_xn_TooMany ?x_xq_TooMany ?x_xm_TooMany ?x_me_kr_TooMany_0 ?x_me_kr_TooMany_1 ?x_me_kr_TooMany_2 ?x_me_kr_TooMany_3 ?x_me_kr_TooMany_4 ?x_me_kr_TooMany_5 ?x_me_kr_TooMany_6 ?x_me_kr_TooMany_7 ?x_me_kr_TooMany_8 ?x_me_kr_TooMany_9 ?x_me_kr_TooMany_10 ?x_me_kr_TooMany_11 ?x_me_kr_TooMany_12 ?x_me_kr_TooMany_13 ?x_me_kr_TooMany_14 ?x_me_kr_TooMany_15 ?x_me_kr_TooMany_16 ?x_me_kr_TooMany_17 ?x_me_kr_TooMany_18 ?x_me_kr_TooMany_19 ?x_me_kr_TooMany_20 ?x_me_kr_TooMany_21 ?x_me_kr_TooMany_22 ?x_me_kr_TooMany_23 ?x_ga_UnknownName ?x_gg_UnknownName ?x_xd_UnknownName ?x_xa_UnknownName ?x_xn_UnknownName ?x_xq_UnknownName ?x_xm_UnknownName ?x_me_kr_UnknownName_0 ?x_me_kr_UnknownName_1 ?x_me_kr_UnknownName_2 ?x_me_kr_UnknownName_3 ?x_me_kr_UnknownName_4 ?x_me_kr_UnknownName_5 ?x_me_kr_UnknownName_6 ?x_me_kr_UnknownName_7 ?x_me_kr_UnknownName_8 ?x_me_kr_UnknownName_9 ?x_me_kr_UnknownName_10 ?x_me_kr_UnknownName_11 ?x_me_kr_UnknownName_12 ?x_me_kr_UnknownName_13 ?x_me_kr_UnknownName_14 ?x_me_kr_UnknownName_15 ?x_me_kr_UnknownName_16 ?x_me_kr_UnknownName_17 ?x_me_kr_UnknownName_18 ?x_me_kr_UnknownName_19 ?x_me_kr_UnknownName_20 ?x_me_kr_UnknownName_21 ?x_me_kr_UnknownName_22 ?x_me_kr_UnknownName_23 ?x_ga_NothingToUndo ?x_gg_NothingToUndo ?x_xd_NothingToUndo ?x_xa_NothingToUndo ?x_xn_NothingToUndo ?x_xq_NothingToUndo ?x_xm_NothingToUndo ?x_xe_NothingToUndo ?x_me_kr_NothingToUndo_0 ?x_me_kr_NothingToUndo_1 ?x_me_kr_NothingToUndo_2 ?x_me_kr_NothingToUndo_3 ?x_me_kr_NothingToUndo_4 ?x_me_kr_NothingToUndo_5 ?x_me_kr_NothingToUndo_6 ?x_me_kr_NothingToUndo_7 ?x_me_kr_NothingToUndo_8 ?x_me_kr_NothingToUndo_9 ?x_me_kr_NothingToUndo_10 ?x_me_kr_NothingToUndo_11 ?x_me_kr_NothingToUndo_12 ?x_me_kr_NothingToUndo_13 ?x_me_kr_NothingToUndo_14 ?x_me_kr_NothingToUndo_15 ?x_me_kr_NothingToUndo_16 ?x_me_kr_NothingToUndo_17 ?x_me_kr_NothingToUndo_18 ?x_me_kr_NothingToUndo_19 ?x_me_kr_NothingToUndo_20 ?x_me_kr_NothingToUndo_21 ?x_me_kr_NothingToUndo_22 ?x_me_kr_NothingToUndo_23 ?x_me_eh_InvalidText_InputError ?x_me_eh_NothingToUndo_InputError ?x_me_eh_UnknownName_InputError ?x_me_eh_TooMany_InputError ?x_me_eh_InvalidText_SizeError ?x_me_eh_NothingToUndo_SizeError ?x_me_eh_UnknownName_SizeError ?x_me_eh_TooMany_SizeError ?x_me_eh_InvalidText_StateError ?x_me_eh_NothingToUndo_StateError ?x_me_eh_UnknownName_StateError ?x_me_eh_TooMany_StateError ?x_C_Namer ?x_pg_Namer ?x_hd_Namer ?x_po_Namer ?x_sa_Namer ?x_mk_Namer ?x_kc_Namer ?x_ha_Namer ?x_hn_Namer ?x_ht_Namer ?x_hm_Namer ?x_me_Namer ?x_na_Namer_rule ?x_na_Namer_width ?x_ne_Namer ?x_non_Namer ?x_nos_Namer ?x_not_Namer ?x_noi_Namer ?x_nol_Namer ?x_me_kn_Namer ?x_me_ks_Namer ?x_me_ktt_Namer ?x_me_kt_Namer_NoneType ?x_me_kt_Namer_bool ?x_me_kt_Namer_int ?x_me_kt_Namer_str ?x_me_kt_Namer_list ?x_me_kt_Namer_tuple ?x_me_kt_Namer_dict ?x_me_kx_Namer_int ?x_me_kx_Namer_bool ?x_me_kx_Namer_str ?x_me_kx_Namer_list ?x_me_kx_Namer_tuple ?x_me_kx_Namer_dict ?x_a_Namer___init__ ?x_i_Namer___init__ ?x_l_Namer___init__ ?x_c_Namer___init__ ?x_k_Namer___init__ ?x_a_Namer_base_of ?x_i_Namer_base_of ?x_l_Namer_base_of ?x_c_Namer_base_of ?x_k_Namer_base_of ?x_a_Namer_numbered ?x_i_Namer_numbered ?x_l_Namer_numbered ?x_c_Namer_numbered ?x_k_Namer_numbered ?x_a_Namer_name_for ?x_i_Namer_name_for ?x_l_Namer_name_for ?x_c_Namer_name_for ?x_k_Namer_name_for ?x_a_Namer___eq__ ?x_i_Namer___eq__ ?x_l_Namer___eq__ ?x_c_Namer___eq__ ?x_k_Namer___eq__ ?x_a_Namer___repr__ ?x_i_Namer___repr__ ?x_l_Namer___repr__ ?x_c_Namer___repr__ ?x_k_Namer___repr__ ?x_C_Shelf ?x_pg_Shelf ?x_hd_Shelf ?x_po_Shelf ?x_sa_Shelf ?x_mk_Shelf ?x_kc_Shelf ?x_ha_Shelf ?x_hn_Shelf ?x_ht_Shelf ?x_hm_Shelf ?x_me_Shelf ?x_na_Shelf_namer ?x_na_Shelf_there ?x_na_Shelf_texts ?x_na_Shelf_names ?x_na_Shelf_past ?x_na_Shelf_moment ?x_na_Shelf_busy ?x_nb_Shelf ?x_me_kt_Shelf_NoneType ?x_me_kt_Shelf_bool ?x_me_kt_Shelf_int ?x_me_kt_Shelf_str ?x_me_kt_Shelf_list ?x_me_kt_Shelf_tuple ?x_me_kt_Shelf_dict ?x_me_kx_Shelf_int ?x_me_kx_Shelf_bool ?x_me_kx_Shelf_str ?x_me_kx_Shelf_list ?x_me_kx_Shelf_tuple ?x_me_kx_Shelf_dict ?x_a_Shelf___init__ ?x_i_Shelf___init__ ?x_l_Shelf___init__ ?x_c_Shelf___init__ ?x_k_Shelf___init__ ?x_a_Shelf_settle ?x_i_Shelf_settle ?x_l_Shelf_settle ?x_c_Shelf_settle ?x_k_Shelf_settle ?x_a_Shelf_change ?x_i_Shelf_change ?x_l_Shelf_change ?x_c_Shelf_change ?x_k_Shelf_change ?x_a_Shelf_check_idle ?x_i_Shelf_check_idle ?x_l_Shelf_check_idle ?x_c_Shelf_check_idle ?x_k_Shelf_check_idle ?x_a_Shelf_let_come ?x_i_Shelf_let_come ?x_l_Shelf_let_come ?x_c_Shelf_let_come ?x_k_Shelf_let_come ?x_a_Shelf_let_go ?x_i_Shelf_let_go ?x_l_Shelf_let_go ?x_c_Shelf_let_go ?x_k_Shelf_let_go ?x_a_Shelf_add ?x_i_Shelf_add ?x_l_Shelf_add ?x_c_Shelf_add ?x_k_Shelf_add ?x_a_Shelf_remove ?x_i_Shelf_remove ?x_l_Shelf_remove ?x_c_Shelf_remove ?x_k_Shelf_remove ?x_a_Shelf_undo ?x_i_Shelf_undo ?x_l_Shelf_undo ?x_c_Shelf_undo ?x_k_Shelf_undo ?x_a_Shelf_trial ?x_i_Shelf_trial ?x_l_Shelf_trial ?x_c_Shelf_trial ?x_k_Shelf_trial ?x_a_Shelf___len__ ?x_i_Shelf___len__ ?x_l_Shelf___len__ ?x_c_Shelf___len__ ?x_k_Shelf___len__ ?x_a_Shelf___repr__ ?x_i_Shelf___repr__ ?x_l_Shelf___repr__ ?x_c_Shelf___repr__ ?x_k_Shelf___repr__ ?x_a_is_integer ?x_i_is_integer ?x_l_is_integer ?x_c_is_integer ?x_k_is_integer ?x_a_is_text ?x_i_is_text ?x_l_is_text ?x_c_is_text ?x_k_is_text ?x_a_check_text ?x_i_check_text ?x_l_check_text ?x_c_check_text ?x_k_check_text ?x_a_check_namer ?x_i_check_namer ?x_l_check_namer ?x_c_check_namer ?x_k_check_namer ?x_a_check_deeds ?x_i_check_deeds ?x_l_check_deeds ?x_c_check_deeds ?x_k_check_deeds ?x_a__law_source ?x_i__law_source ?x_l__law_source ?x_c__law_source ?x_k__law_source ?x_a__law_draw ?x_i__law_draw ?x_l__law_draw ?x_c__law_draw ?x_k__law_draw ?x_a__law_one ?x_i__law_one ?x_l__law_one ?x_c__law_one ?x_k__law_one ?x_a__law_stem ?x_i__law_stem ?x_l__law_stem ?x_c__law_stem ?x_k__law_stem ?x_a__law_word ?x_i__law_word ?x_l__law_word ?x_c__law_word ?x_k__law_word ?x_a__law_numbered ?x_i__law_numbered ?x_l__law_numbered ?x_c__law_numbered ?x_k__law_numbered ?x_a__law_name ?x_i__law_name ?x_l__law_name ?x_c__law_name ?x_k__law_name ?x_a__law_refusal ?x_i__law_refusal ?x_l__law_refusal ?x_c__law_refusal ?x_k__law_refusal ?x_a__law_tried ?x_i__law_tried ?x_l__law_tried ?x_c__law_tried ?x_k__law_tried ?x_a__law_is ?x_i__law_is ?x_l__law_is ?x_c__law_is ?x_k__law_is ?x_a__law_added ?x_i__law_added ?x_l__law_added ?x_c__law_added ?x_k__law_added ?x_a__law_removed ?x_i__law_removed ?x_l__law_removed ?x_c__law_removed ?x_k__law_removed ?x_a__law_shelf_is ?x_i__law_shelf_is ?x_l__law_shelf_is ?x_c__law_shelf_is ?x_k__law_shelf_is ?x_a__law_added_right ?x_i__law_added_right ?x_l__law_added_right ?x_c__law_added_right ?x_k__law_added_right ?x_a__law_removed_right ?x_i__law_removed_right ?x_l__law_removed_right ?x_c__law_removed_right ?x_k__law_removed_right ?x_a__law_step ?x_i__law_step ?x_l__law_step ?x_c__law_step ?x_k__law_step ?x_a_law ?x_i_law ?x_l_law ?x_c_law ?x_k_law ?x_me_tb__law_added_right ?x_me_cd__law_added_right ?x_me_hd__law_added_right ?x_me_np__law_added_right ?x_tab__law_added_right ?x_me_ps__law_added_right ?x_me_tb__law_removed_right ?x_me_cd__law_removed_right ?x_me_hd__law_removed_right ?x_me_np__law_removed_right ?x_tab__law_removed_right ?x_me_ps__law_removed_right ?x_me_pd__law_removed_right__law_added_right ?x_me_tb__law_step ?x_me_cd__law_step ?x_me_hd__law_step ?x_me_np__law_step ?x_tab__law_step ?x_me_ps__law_step ?x_me_pd__law_step__law_added_right ?x_me_pd__law_step__law_removed_right ?x_me_tb_law ?x_me_cd_law ?x_me_hd_law ?x_me_np_law ?x_tab_law ?x_me_ps_law ?x_me_pd_law__law_added_right ?x_me_pd_law__law_removed_right ?x_me_pd_law__law_step)
    (case x_me_sy => rfl)
    (case x_n_ArithmeticError => k_is)
    (case x_n_LookupError => k_is)
    (case x_n_ValueError => k_is)
    (case x_n_abs => k_is)
    (case x_n_all => k_is)
    (case x_n_bool => k_is)
    (case x_n_divmod => k_is)
    (case x_n_enumerate => k_is)
    (case x_n_int => k_is)
    (case x_n_isinstance => k_is)
    (case x_n_len => k_is)
    (case x_n_max => k_is)
    (case x_n_min => k_is)
    (case x_n_range => k_is)
    (case x_n_repr => k_is)
    (case x_n_str => k_is)
    (case x_n_tuple => k_is)
    (case x_k_MOST_SIGNS => k_is)
    (case x_k_MOST_TEXT => k_is)
    (case x_k_MOST_SHELVED => k_is)
    (case x_k_SIGNS => k_is)
    (case x_m_RULES => k_is)
    (case x_q_RULES => k_is)
    (case x_k_LEAST_WIDTH => k_is)
    (case x_k_FIRST_NUMBER => k_is)
    (case x_m_DEEDS => k_is)
    (case x_q_DEEDS => k_is)
    (case x_C_InputError => k_is)
    (case x_C_StateError => k_is)
    (case x_C_SizeError => k_is)
    (case x_C_InvalidNumber => k_is)
    (case x_C_InvalidMark => k_is)
    (case x_C_InvalidText => k_is)
    (case x_C_InvalidLength => k_is)
    (case x_C_InvalidRule => k_is)
    (case x_C_InvalidWidth => k_is)
    (case x_C_InvalidPlace => k_is)
    (case x_C_InvalidLine => k_is)
    (case x_C_NotANamer => k_is)
    (case x_C_NotAShelf => k_is)
    (case x_C_InvalidRow => k_is)
    (case x_C_InvalidViews => k_is)
    (case x_C_InvalidTexts => k_is)
    (case x_C_InvalidDeeds => k_is)
    (case x_C_NothingToUndo => k_is)
    (case x_C_Busy => k_is)
    (case x_C_UnknownName => k_is)
    (case x_C_TooMany => k_is)
    (case x_L_InvalidText => k_is)
    (case x_me_R_InvalidText => first | rfl | k_exc | k_is)
    (case x_xs_InvalidText => k_is)
    (case x_xe_InvalidText => k_is)
    (case x_xt_InvalidText => k_is)
    (case x_xk_InvalidText => k_is)
    (case x_na_InvalidText_value => k_is)
    (case x_a_InvalidText___init__ => k_is)
    (case x_j_InvalidText___init__ => k_is)
    (case x_i_InvalidText___init__ => k_is)
    (case x_l_InvalidText___init__ => k_is)
    (case x_c_InvalidText___init__ => k_is)
    (case x_k_InvalidText___init__ => k_is)
    (case x_L_InvalidRule => k_is)
    (case x_me_R_InvalidRule => first | rfl | k_exc | k_is)
    (case x_xs_InvalidRule => k_is)
    (case x_xe_InvalidRule => k_is)
    (case x_xt_InvalidRule => k_is)
    (case x_xk_InvalidRule => k_is)
    (case x_na_InvalidRule_value => k_is)
    (case x_a_InvalidRule___init__ => k_is)
    (case x_j_InvalidRule___init__ => k_is)
    (case x_i_InvalidRule___init__ => k_is)
    (case x_l_InvalidRule___init__ => k_is)
    (case x_c_InvalidRule___init__ => k_is)
    (case x_k_InvalidRule___init__ => k_is)
    (case x_L_InvalidWidth => k_is)
    (case x_me_R_InvalidWidth => first | rfl | k_exc | k_is)
    (case x_xs_InvalidWidth => k_is)
    (case x_xe_InvalidWidth => k_is)
    (case x_xt_InvalidWidth => k_is)
    (case x_xk_InvalidWidth => k_is)
    (case x_na_InvalidWidth_value => k_is)
    (case x_a_InvalidWidth___init__ => k_is)
    (case x_j_InvalidWidth___init__ => k_is)
    (case x_i_InvalidWidth___init__ => k_is)
    (case x_l_InvalidWidth___init__ => k_is)
    (case x_c_InvalidWidth___init__ => k_is)
    (case x_k_InvalidWidth___init__ => k_is)
    (case x_L_NotANamer => k_is)
    (case x_me_R_NotANamer => first | rfl | k_exc | k_is)
    (case x_xs_NotANamer => k_is)
    (case x_xe_NotANamer => k_is)
    (case x_xt_NotANamer => k_is)
    (case x_xk_NotANamer => k_is)
    (case x_na_NotANamer_value => k_is)
    (case x_a_NotANamer___init__ => k_is)
    (case x_j_NotANamer___init__ => k_is)
    (case x_i_NotANamer___init__ => k_is)
    (case x_l_NotANamer___init__ => k_is)
    (case x_c_NotANamer___init__ => k_is)
    (case x_k_NotANamer___init__ => k_is)
    (case x_L_InvalidDeeds => k_is)
    (case x_me_R_InvalidDeeds => first | rfl | k_exc | k_is)
    (case x_xs_InvalidDeeds => k_is)
    (case x_xe_InvalidDeeds => k_is)
    (case x_xt_InvalidDeeds => k_is)
    (case x_xk_InvalidDeeds => k_is)
    (case x_na_InvalidDeeds_index => k_is)
    (case x_a_InvalidDeeds___init__ => k_is)
    (case x_j_InvalidDeeds___init__ => k_is)
    (case x_i_InvalidDeeds___init__ => k_is)
    (case x_l_InvalidDeeds___init__ => k_is)
    (case x_c_InvalidDeeds___init__ => k_is)
    (case x_k_InvalidDeeds___init__ => k_is)
    (case x_L_UnknownName => k_is)
    (case x_me_R_UnknownName => first | rfl | k_exc | k_is)
    (case x_xs_UnknownName => k_is)
    (case x_xe_UnknownName => k_is)
    (case x_xt_UnknownName => k_is)
    (case x_xk_UnknownName => k_is)
    (case x_na_UnknownName_value => k_is)
    (case x_a_UnknownName___init__ => k_is)
    (case x_j_UnknownName___init__ => k_is)
    (case x_i_UnknownName___init__ => k_is)
    (case x_l_UnknownName___init__ => k_is)
    (case x_c_UnknownName___init__ => k_is)
    (case x_k_UnknownName___init__ => k_is)
    (case x_L_TooMany => k_is)
    (case x_me_R_TooMany => first | rfl | k_exc | k_is)
    (case x_xs_TooMany => k_is)
    (case x_xe_TooMany => k_is)
    (case x_xt_TooMany => k_is)
    (case x_xk_TooMany => k_is)
    (case x_na_TooMany_limit => k_is)
    (case x_a_TooMany___init__ => k_is)
    (case x_j_TooMany___init__ => k_is)
    (case x_i_TooMany___init__ => k_is)
    (case x_l_TooMany___init__ => k_is)
    (case x_c_TooMany___init__ => k_is)
    (case x_k_TooMany___init__ => k_is)
    (case x_me_q_Busy => first | rfl | k_exc | k_is)
    (case x_kq_Busy => k_is)
    (case x_bq_Busy => k_is)
    (case x_tq_Busy => k_is)
    (case x_me_q_NothingToUndo => first | rfl | k_exc | k_is)
    (case x_kq_NothingToUndo => k_is)
    (case x_bq_NothingToUndo => k_is)
    (case x_tq_NothingToUndo => k_is)
    (case x_ga_InvalidText => k_is)
    (case x_gg_InvalidText => k_is)
    (case x_xd_InvalidText => k_is)
    (case x_xa_InvalidText => k_is)
    (case x_xn_InvalidText => k_is)
    (case x_xq_InvalidText => k_is)
    (case x_xm_InvalidText => k_is)
    (case x_me_kr_InvalidText_0 => first | rfl | k_exc | k_is)
    (case x_me_kr_InvalidText_1 => first | rfl | k_exc | k_is)
    (case x_me_kr_InvalidText_2 => first | rfl | k_exc | k_is)
    (case x_me_kr_InvalidText_3 => first | rfl | k_exc | k_is)
    (case x_me_kr_InvalidText_4 => first | rfl | k_exc | k_is)
    (case x_me_kr_InvalidText_5 => first | rfl | k_exc | k_is)
    (case x_me_kr_InvalidText_6 => first | rfl | k_exc | k_is)
    (case x_me_kr_InvalidText_7 => first | rfl | k_exc | k_is)
    (case x_me_kr_InvalidText_8 => first | rfl | k_exc | k_is)
    (case x_me_kr_InvalidText_9 => first | rfl | k_exc | k_is)
    (case x_me_kr_InvalidText_10 => first | rfl | k_exc | k_is)
    (case x_me_kr_InvalidText_11 => first | rfl | k_exc | k_is)
    (case x_me_kr_InvalidText_12 => first | rfl | k_exc | k_is)
    (case x_me_kr_InvalidText_13 => first | rfl | k_exc | k_is)
    (case x_me_kr_InvalidText_14 => first | rfl | k_exc | k_is)
    (case x_me_kr_InvalidText_15 => first | rfl | k_exc | k_is)
    (case x_me_kr_InvalidText_16 => first | rfl | k_exc | k_is)
    (case x_me_kr_InvalidText_17 => first | rfl | k_exc | k_is)
    (case x_me_kr_InvalidText_18 => first | rfl | k_exc | k_is)
    (case x_me_kr_InvalidText_19 => first | rfl | k_exc | k_is)
    (case x_me_kr_InvalidText_20 => first | rfl | k_exc | k_is)
    (case x_me_kr_InvalidText_21 => first | rfl | k_exc | k_is)
    (case x_me_kr_InvalidText_22 => first | rfl | k_exc | k_is)
    (case x_me_kr_InvalidText_23 => first | rfl | k_exc | k_is)
    (case x_ga_TooMany => k_is)
    (case x_gg_TooMany => k_is)
    (case x_xd_TooMany => k_is)
    (case x_xa_TooMany => k_is)
    (case x_xn_TooMany => k_is)
    (case x_xq_TooMany => k_is)
    (case x_xm_TooMany => k_is)
    (case x_me_kr_TooMany_0 => first | rfl | k_exc | k_is)
    (case x_me_kr_TooMany_1 => first | rfl | k_exc | k_is)
    (case x_me_kr_TooMany_2 => first | rfl | k_exc | k_is)
    (case x_me_kr_TooMany_3 => first | rfl | k_exc | k_is)
    (case x_me_kr_TooMany_4 => first | rfl | k_exc | k_is)
    (case x_me_kr_TooMany_5 => first | rfl | k_exc | k_is)
    (case x_me_kr_TooMany_6 => first | rfl | k_exc | k_is)
    (case x_me_kr_TooMany_7 => first | rfl | k_exc | k_is)
    (case x_me_kr_TooMany_8 => first | rfl | k_exc | k_is)
    (case x_me_kr_TooMany_9 => first | rfl | k_exc | k_is)
    (case x_me_kr_TooMany_10 => first | rfl | k_exc | k_is)
    (case x_me_kr_TooMany_11 => first | rfl | k_exc | k_is)
    (case x_me_kr_TooMany_12 => first | rfl | k_exc | k_is)
    (case x_me_kr_TooMany_13 => first | rfl | k_exc | k_is)
    (case x_me_kr_TooMany_14 => first | rfl | k_exc | k_is)
    (case x_me_kr_TooMany_15 => first | rfl | k_exc | k_is)
    (case x_me_kr_TooMany_16 => first | rfl | k_exc | k_is)
    (case x_me_kr_TooMany_17 => first | rfl | k_exc | k_is)
    (case x_me_kr_TooMany_18 => first | rfl | k_exc | k_is)
    (case x_me_kr_TooMany_19 => first | rfl | k_exc | k_is)
    (case x_me_kr_TooMany_20 => first | rfl | k_exc | k_is)
    (case x_me_kr_TooMany_21 => first | rfl | k_exc | k_is)
    (case x_me_kr_TooMany_22 => first | rfl | k_exc | k_is)
    (case x_me_kr_TooMany_23 => first | rfl | k_exc | k_is)
    (case x_ga_UnknownName => k_is)
    (case x_gg_UnknownName => k_is)
    (case x_xd_UnknownName => k_is)
    (case x_xa_UnknownName => k_is)
    (case x_xn_UnknownName => k_is)
    (case x_xq_UnknownName => k_is)
    (case x_xm_UnknownName => k_is)
    (case x_me_kr_UnknownName_0 => first | rfl | k_exc | k_is)
    (case x_me_kr_UnknownName_1 => first | rfl | k_exc | k_is)
    (case x_me_kr_UnknownName_2 => first | rfl | k_exc | k_is)
    (case x_me_kr_UnknownName_3 => first | rfl | k_exc | k_is)
    (case x_me_kr_UnknownName_4 => first | rfl | k_exc | k_is)
    (case x_me_kr_UnknownName_5 => first | rfl | k_exc | k_is)
    (case x_me_kr_UnknownName_6 => first | rfl | k_exc | k_is)
    (case x_me_kr_UnknownName_7 => first | rfl | k_exc | k_is)
    (case x_me_kr_UnknownName_8 => first | rfl | k_exc | k_is)
    (case x_me_kr_UnknownName_9 => first | rfl | k_exc | k_is)
    (case x_me_kr_UnknownName_10 => first | rfl | k_exc | k_is)
    (case x_me_kr_UnknownName_11 => first | rfl | k_exc | k_is)
    (case x_me_kr_UnknownName_12 => first | rfl | k_exc | k_is)
    (case x_me_kr_UnknownName_13 => first | rfl | k_exc | k_is)
    (case x_me_kr_UnknownName_14 => first | rfl | k_exc | k_is)
    (case x_me_kr_UnknownName_15 => first | rfl | k_exc | k_is)
    (case x_me_kr_UnknownName_16 => first | rfl | k_exc | k_is)
    (case x_me_kr_UnknownName_17 => first | rfl | k_exc | k_is)
    (case x_me_kr_UnknownName_18 => first | rfl | k_exc | k_is)
    (case x_me_kr_UnknownName_19 => first | rfl | k_exc | k_is)
    (case x_me_kr_UnknownName_20 => first | rfl | k_exc | k_is)
    (case x_me_kr_UnknownName_21 => first | rfl | k_exc | k_is)
    (case x_me_kr_UnknownName_22 => first | rfl | k_exc | k_is)
    (case x_me_kr_UnknownName_23 => first | rfl | k_exc | k_is)
    (case x_ga_NothingToUndo => k_is)
    (case x_gg_NothingToUndo => k_is)
    (case x_xd_NothingToUndo => k_is)
    (case x_xa_NothingToUndo => k_is)
    (case x_xn_NothingToUndo => k_is)
    (case x_xq_NothingToUndo => k_is)
    (case x_xm_NothingToUndo => k_is)
    (case x_xe_NothingToUndo => k_is)
    (case x_me_kr_NothingToUndo_0 => first | rfl | k_exc | k_is)
    (case x_me_kr_NothingToUndo_1 => first | rfl | k_exc | k_is)
    (case x_me_kr_NothingToUndo_2 => first | rfl | k_exc | k_is)
    (case x_me_kr_NothingToUndo_3 => first | rfl | k_exc | k_is)
    (case x_me_kr_NothingToUndo_4 => first | rfl | k_exc | k_is)
    (case x_me_kr_NothingToUndo_5 => first | rfl | k_exc | k_is)
    (case x_me_kr_NothingToUndo_6 => first | rfl | k_exc | k_is)
    (case x_me_kr_NothingToUndo_7 => first | rfl | k_exc | k_is)
    (case x_me_kr_NothingToUndo_8 => first | rfl | k_exc | k_is)
    (case x_me_kr_NothingToUndo_9 => first | rfl | k_exc | k_is)
    (case x_me_kr_NothingToUndo_10 => first | rfl | k_exc | k_is)
    (case x_me_kr_NothingToUndo_11 => first | rfl | k_exc | k_is)
    (case x_me_kr_NothingToUndo_12 => first | rfl | k_exc | k_is)
    (case x_me_kr_NothingToUndo_13 => first | rfl | k_exc | k_is)
    (case x_me_kr_NothingToUndo_14 => first | rfl | k_exc | k_is)
    (case x_me_kr_NothingToUndo_15 => first | rfl | k_exc | k_is)
    (case x_me_kr_NothingToUndo_16 => first | rfl | k_exc | k_is)
    (case x_me_kr_NothingToUndo_17 => first | rfl | k_exc | k_is)
    (case x_me_kr_NothingToUndo_18 => first | rfl | k_exc | k_is)
    (case x_me_kr_NothingToUndo_19 => first | rfl | k_exc | k_is)
    (case x_me_kr_NothingToUndo_20 => first | rfl | k_exc | k_is)
    (case x_me_kr_NothingToUndo_21 => first | rfl | k_exc | k_is)
    (case x_me_kr_NothingToUndo_22 => first | rfl | k_exc | k_is)
    (case x_me_kr_NothingToUndo_23 => first | rfl | k_exc | k_is)
    (case x_me_eh_InvalidText_InputError => first | rfl | k_exc | k_is)
    (case x_me_eh_NothingToUndo_InputError => first | rfl | k_exc | k_is)
    (case x_me_eh_UnknownName_InputError => first | rfl | k_exc | k_is)
    (case x_me_eh_TooMany_InputError => first | rfl | k_exc | k_is)
    (case x_me_eh_InvalidText_SizeError => first | rfl | k_exc | k_is)
    (case x_me_eh_NothingToUndo_SizeError => first | rfl | k_exc | k_is)
    (case x_me_eh_UnknownName_SizeError => first | rfl | k_exc | k_is)
    (case x_me_eh_TooMany_SizeError => first | rfl | k_exc | k_is)
    (case x_me_eh_InvalidText_StateError => first | rfl | k_exc | k_is)
    (case x_me_eh_NothingToUndo_StateError => first | rfl | k_exc | k_is)
    (case x_me_eh_UnknownName_StateError => first | rfl | k_exc | k_is)
    (case x_me_eh_TooMany_StateError => first | rfl | k_exc | k_is)
    (case x_C_Namer => k_is)
    (case x_pg_Namer => k_is)
    (case x_hd_Namer => k_is)
    (case x_po_Namer => k_is)
    (case x_sa_Namer => k_is)
    (case x_mk_Namer => k_is)
    (case x_kc_Namer => k_is)
    (case x_ha_Namer => k_is)
    (case x_hn_Namer => k_is)
    (case x_ht_Namer => k_is)
    (case x_hm_Namer => k_is)
    (case x_me_Namer => first | rfl | k_exc | k_is)
    (case x_na_Namer_rule => k_is)
    (case x_na_Namer_width => k_is)
    (case x_ne_Namer => k_is)
    (case x_non_Namer => k_is)
    (case x_nos_Namer => k_is)
    (case x_not_Namer => k_is)
    (case x_noi_Namer => k_is)
    (case x_nol_Namer => k_is)
    (case x_me_kn_Namer => first | rfl | k_exc | k_is)
    (case x_me_ks_Namer => first | rfl | k_exc | k_is)
    (case x_me_ktt_Namer => first | rfl | k_exc | k_is)
    (case x_me_kt_Namer_NoneType => first | rfl | k_exc | k_is)
    (case x_me_kt_Namer_bool => first | rfl | k_exc | k_is)
    (case x_me_kt_Namer_int => first | rfl | k_exc | k_is)
    (case x_me_kt_Namer_str => first | rfl | k_exc | k_is)
    (case x_me_kt_Namer_list => first | rfl | k_exc | k_is)
    (case x_me_kt_Namer_tuple => first | rfl | k_exc | k_is)
    (case x_me_kt_Namer_dict => first | rfl | k_exc | k_is)
    (case x_me_kx_Namer_int => first | rfl | k_exc | k_is)
    (case x_me_kx_Namer_bool => first | rfl | k_exc | k_is)
    (case x_me_kx_Namer_str => first | rfl | k_exc | k_is)
    (case x_me_kx_Namer_list => first | rfl | k_exc | k_is)
    (case x_me_kx_Namer_tuple => first | rfl | k_exc | k_is)
    (case x_me_kx_Namer_dict => first | rfl | k_exc | k_is)
    (case x_a_Namer___init__ => k_is)
    (case x_i_Namer___init__ => k_is)
    (case x_l_Namer___init__ => k_is)
    (case x_c_Namer___init__ => k_is)
    (case x_k_Namer___init__ => k_is)
    (case x_a_Namer_base_of => k_is)
    (case x_i_Namer_base_of => k_is)
    (case x_l_Namer_base_of => k_is)
    (case x_c_Namer_base_of => k_is)
    (case x_k_Namer_base_of => k_is)
    (case x_a_Namer_numbered => k_is)
    (case x_i_Namer_numbered => k_is)
    (case x_l_Namer_numbered => k_is)
    (case x_c_Namer_numbered => k_is)
    (case x_k_Namer_numbered => k_is)
    (case x_a_Namer_name_for => k_is)
    (case x_i_Namer_name_for => k_is)
    (case x_l_Namer_name_for => k_is)
    (case x_c_Namer_name_for => k_is)
    (case x_k_Namer_name_for => k_is)
    (case x_a_Namer___eq__ => k_is)
    (case x_i_Namer___eq__ => k_is)
    (case x_l_Namer___eq__ => k_is)
    (case x_c_Namer___eq__ => k_is)
    (case x_k_Namer___eq__ => k_is)
    (case x_a_Namer___repr__ => k_is)
    (case x_i_Namer___repr__ => k_is)
    (case x_l_Namer___repr__ => k_is)
    (case x_c_Namer___repr__ => k_is)
    (case x_k_Namer___repr__ => k_is)
    (case x_C_Shelf => k_is)
    (case x_pg_Shelf => k_is)
    (case x_hd_Shelf => k_is)
    (case x_po_Shelf => k_is)
    (case x_sa_Shelf => k_is)
    (case x_mk_Shelf => k_is)
    (case x_kc_Shelf => k_is)
    (case x_ha_Shelf => k_is)
    (case x_hn_Shelf => k_is)
    (case x_ht_Shelf => k_is)
    (case x_hm_Shelf => k_is)
    (case x_me_Shelf => first | rfl | k_exc | k_is)
    (case x_na_Shelf_namer => k_is)
    (case x_na_Shelf_there => k_is)
    (case x_na_Shelf_texts => k_is)
    (case x_na_Shelf_names => k_is)
    (case x_na_Shelf_past => k_is)
    (case x_na_Shelf_moment => k_is)
    (case x_na_Shelf_busy => k_is)
    (case x_nb_Shelf => k_is)
    (case x_me_kt_Shelf_NoneType => first | rfl | k_exc | k_is)
    (case x_me_kt_Shelf_bool => first | rfl | k_exc | k_is)
    (case x_me_kt_Shelf_int => first | rfl | k_exc | k_is)
    (case x_me_kt_Shelf_str => first | rfl | k_exc | k_is)
    (case x_me_kt_Shelf_list => first | rfl | k_exc | k_is)
    (case x_me_kt_Shelf_tuple => first | rfl | k_exc | k_is)
    (case x_me_kt_Shelf_dict => first | rfl | k_exc | k_is)
    (case x_me_kx_Shelf_int => first | rfl | k_exc | k_is)
    (case x_me_kx_Shelf_bool => first | rfl | k_exc | k_is)
    (case x_me_kx_Shelf_str => first | rfl | k_exc | k_is)
    (case x_me_kx_Shelf_list => first | rfl | k_exc | k_is)
    (case x_me_kx_Shelf_tuple => first | rfl | k_exc | k_is)
    (case x_me_kx_Shelf_dict => first | rfl | k_exc | k_is)
    (case x_a_Shelf___init__ => k_is)
    (case x_i_Shelf___init__ => k_is)
    (case x_l_Shelf___init__ => k_is)
    (case x_c_Shelf___init__ => k_is)
    (case x_k_Shelf___init__ => k_is)
    (case x_a_Shelf_settle => k_is)
    (case x_i_Shelf_settle => k_is)
    (case x_l_Shelf_settle => k_is)
    (case x_c_Shelf_settle => k_is)
    (case x_k_Shelf_settle => k_is)
    (case x_a_Shelf_change => k_is)
    (case x_i_Shelf_change => k_is)
    (case x_l_Shelf_change => k_is)
    (case x_c_Shelf_change => k_is)
    (case x_k_Shelf_change => k_is)
    (case x_a_Shelf_check_idle => k_is)
    (case x_i_Shelf_check_idle => k_is)
    (case x_l_Shelf_check_idle => k_is)
    (case x_c_Shelf_check_idle => k_is)
    (case x_k_Shelf_check_idle => k_is)
    (case x_a_Shelf_let_come => k_is)
    (case x_i_Shelf_let_come => k_is)
    (case x_l_Shelf_let_come => k_is)
    (case x_c_Shelf_let_come => k_is)
    (case x_k_Shelf_let_come => k_is)
    (case x_a_Shelf_let_go => k_is)
    (case x_i_Shelf_let_go => k_is)
    (case x_l_Shelf_let_go => k_is)
    (case x_c_Shelf_let_go => k_is)
    (case x_k_Shelf_let_go => k_is)
    (case x_a_Shelf_add => k_is)
    (case x_i_Shelf_add => k_is)
    (case x_l_Shelf_add => k_is)
    (case x_c_Shelf_add => k_is)
    (case x_k_Shelf_add => k_is)
    (case x_a_Shelf_remove => k_is)
    (case x_i_Shelf_remove => k_is)
    (case x_l_Shelf_remove => k_is)
    (case x_c_Shelf_remove => k_is)
    (case x_k_Shelf_remove => k_is)
    (case x_a_Shelf_undo => k_is)
    (case x_i_Shelf_undo => k_is)
    (case x_l_Shelf_undo => k_is)
    (case x_c_Shelf_undo => k_is)
    (case x_k_Shelf_undo => k_is)
    (case x_a_Shelf_trial => k_is)
    (case x_i_Shelf_trial => k_is)
    (case x_l_Shelf_trial => k_is)
    (case x_c_Shelf_trial => k_is)
    (case x_k_Shelf_trial => k_is)
    (case x_a_Shelf___len__ => k_is)
    (case x_i_Shelf___len__ => k_is)
    (case x_l_Shelf___len__ => k_is)
    (case x_c_Shelf___len__ => k_is)
    (case x_k_Shelf___len__ => k_is)
    (case x_a_Shelf___repr__ => k_is)
    (case x_i_Shelf___repr__ => k_is)
    (case x_l_Shelf___repr__ => k_is)
    (case x_c_Shelf___repr__ => k_is)
    (case x_k_Shelf___repr__ => k_is)
    (case x_a_is_integer => k_is)
    (case x_i_is_integer => k_is)
    (case x_l_is_integer => k_is)
    (case x_c_is_integer => k_is)
    (case x_k_is_integer => k_is)
    (case x_a_is_text => k_is)
    (case x_i_is_text => k_is)
    (case x_l_is_text => k_is)
    (case x_c_is_text => k_is)
    (case x_k_is_text => k_is)
    (case x_a_check_text => k_is)
    (case x_i_check_text => k_is)
    (case x_l_check_text => k_is)
    (case x_c_check_text => k_is)
    (case x_k_check_text => k_is)
    (case x_a_check_namer => k_is)
    (case x_i_check_namer => k_is)
    (case x_l_check_namer => k_is)
    (case x_c_check_namer => k_is)
    (case x_k_check_namer => k_is)
    (case x_a_check_deeds => k_is)
    (case x_i_check_deeds => k_is)
    (case x_l_check_deeds => k_is)
    (case x_c_check_deeds => k_is)
    (case x_k_check_deeds => k_is)
    (case x_a__law_source => k_is)
    (case x_i__law_source => k_is)
    (case x_l__law_source => k_is)
    (case x_c__law_source => k_is)
    (case x_k__law_source => k_is)
    (case x_a__law_draw => k_is)
    (case x_i__law_draw => k_is)
    (case x_l__law_draw => k_is)
    (case x_c__law_draw => k_is)
    (case x_k__law_draw => k_is)
    (case x_a__law_one => k_is)
    (case x_i__law_one => k_is)
    (case x_l__law_one => k_is)
    (case x_c__law_one => k_is)
    (case x_k__law_one => k_is)
    (case x_a__law_stem => k_is)
    (case x_i__law_stem => k_is)
    (case x_l__law_stem => k_is)
    (case x_c__law_stem => k_is)
    (case x_k__law_stem => k_is)
    (case x_a__law_word => k_is)
    (case x_i__law_word => k_is)
    (case x_l__law_word => k_is)
    (case x_c__law_word => k_is)
    (case x_k__law_word => k_is)
    (case x_a__law_numbered => k_is)
    (case x_i__law_numbered => k_is)
    (case x_l__law_numbered => k_is)
    (case x_c__law_numbered => k_is)
    (case x_k__law_numbered => k_is)
    (case x_a__law_name => k_is)
    (case x_i__law_name => k_is)
    (case x_l__law_name => k_is)
    (case x_c__law_name => k_is)
    (case x_k__law_name => k_is)
    (case x_a__law_refusal => k_is)
    (case x_i__law_refusal => k_is)
    (case x_l__law_refusal => k_is)
    (case x_c__law_refusal => k_is)
    (case x_k__law_refusal => k_is)
    (case x_a__law_tried => k_is)
    (case x_i__law_tried => k_is)
    (case x_l__law_tried => k_is)
    (case x_c__law_tried => k_is)
    (case x_k__law_tried => k_is)
    (case x_a__law_is => k_is)
    (case x_i__law_is => k_is)
    (case x_l__law_is => k_is)
    (case x_c__law_is => k_is)
    (case x_k__law_is => k_is)
    (case x_a__law_added => k_is)
    (case x_i__law_added => k_is)
    (case x_l__law_added => k_is)
    (case x_c__law_added => k_is)
    (case x_k__law_added => k_is)
    (case x_a__law_removed => k_is)
    (case x_i__law_removed => k_is)
    (case x_l__law_removed => k_is)
    (case x_c__law_removed => k_is)
    (case x_k__law_removed => k_is)
    (case x_a__law_shelf_is => k_is)
    (case x_i__law_shelf_is => k_is)
    (case x_l__law_shelf_is => k_is)
    (case x_c__law_shelf_is => k_is)
    (case x_k__law_shelf_is => k_is)
    (case x_a__law_added_right => k_is)
    (case x_i__law_added_right => k_is)
    (case x_l__law_added_right => k_is)
    (case x_c__law_added_right => k_is)
    (case x_k__law_added_right => k_is)
    (case x_a__law_removed_right => k_is)
    (case x_i__law_removed_right => k_is)
    (case x_l__law_removed_right => k_is)
    (case x_c__law_removed_right => k_is)
    (case x_k__law_removed_right => k_is)
    (case x_a__law_step => k_is)
    (case x_i__law_step => k_is)
    (case x_l__law_step => k_is)
    (case x_c__law_step => k_is)
    (case x_k__law_step => k_is)
    (case x_a_law => k_is)
    (case x_i_law => k_is)
    (case x_l_law => k_is)
    (case x_c_law => k_is)
    (case x_k_law => k_is)
    (case x_me_tb__law_added_right => first | rfl | k_exc | k_is)
    (case x_me_cd__law_added_right => first | rfl | k_exc | k_is)
    (case x_me_hd__law_added_right => first | rfl | k_exc | k_is)
    (case x_me_np__law_added_right => first | rfl | k_exc | k_is)
    (case x_tab__law_added_right => exact PySem.W.km_tabs_of Y _ (by decide))
    (case x_me_ps__law_added_right => first | rfl | k_exc | k_is)
    (case x_me_tb__law_removed_right => first | rfl | k_exc | k_is)
    (case x_me_cd__law_removed_right => first | rfl | k_exc | k_is)
    (case x_me_hd__law_removed_right => first | rfl | k_exc | k_is)
    (case x_me_np__law_removed_right => first | rfl | k_exc | k_is)
    (case x_tab__law_removed_right => exact PySem.W.km_tabs_of Y _ (by decide))
    (case x_me_ps__law_removed_right => first | rfl | k_exc | k_is)
    (case x_me_pd__law_removed_right__law_added_right => first | rfl | k_exc | k_is)
    (case x_me_tb__law_step => first | rfl | k_exc | k_is)
    (case x_me_cd__law_step => first | rfl | k_exc | k_is)
    (case x_me_hd__law_step => first | rfl | k_exc | k_is)
    (case x_me_np__law_step => first | rfl | k_exc | k_is)
    (case x_tab__law_step => exact PySem.W.km_tabs_of Y _ (by decide))
    (case x_me_ps__law_step => first | rfl | k_exc | k_is)
    (case x_me_pd__law_step__law_added_right => first | rfl | k_exc | k_is)
    (case x_me_pd__law_step__law_removed_right => first | rfl | k_exc | k_is)
    (case x_me_tb_law => first | rfl | k_exc | k_is)
    (case x_me_cd_law => first | rfl | k_exc | k_is)
    (case x_me_hd_law => first | rfl | k_exc | k_is)
    (case x_me_np_law => first | rfl | k_exc | k_is)
    (case x_tab_law => exact PySem.W.km_tabs_of Y _ (by decide))
    (case x_me_ps_law => first | rfl | k_exc | k_is)
    (case x_me_pd_law__law_added_right => first | rfl | k_exc | k_is)
    (case x_me_pd_law__law_removed_right => first | rfl | k_exc | k_is)
    (case x_me_pd_law__law_step => first | rfl | k_exc | k_is)
